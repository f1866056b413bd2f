import PyProof.Rows.All
import Wide.All
import OpenK.AllK
import Wide.FinOn
import PyProof.EqAt
import PyProof.EqKinds
import PyProof.TupleCall
import HandS.ForMost
import HandS.Exc
import HandS.ExcOwn
import HandS.WordsExc
import HandS.TryOnly
import HandS.TryMany
import HandS.Walk
import HandS.IsInst
import HandS.SortInts
import HandS.TupAny
import HandS.ExcInit
import HandS.ExcField
import HandS.Zip
import HandS.Defaults
import HandS.Head0
import HandS.Head1
import HandS.Head2
import HandS.HeadEnd
import HandS.HeadHook1
import HandS.HeadHook2
import HandS.HeadHook4
import HandS.OwnEq
import HandS.Conv
import PyProof.Draws
import KE.KCallOwn
import HandS.WideBits
import HandS.More
import HandS.SetFor
import HandS.SetBool
import HandS.Strs
import HandS.TupLe
import HandS.Iter
import HandS.Remove
import KE.DataMinMax
import KE.SortData
import KE.DataEq
import HandS.Star
import HandS.Text
import HandS.List
import KE.KTupSum
import KE.KSuper
import HandS.ClsMeth
import HandS.TupSets
import PyProof.SeqIndex
import HandS.Style
import HandS.StrMore
import HandS.FStr
import PyProof.StrOps2
import KE.IntTextLaws
import PyProof.Rows.StrAscii
import HandS.ReplaceLit
import PyProof.Rows.StrOr
import PySem.Challenge.RW_threevotes_k06_conditions_and_opposites
set_option Elab.async false
set_option linter.all false
set_option maxRecDepth 100000
set_option maxHeartbeats 4000000
/-! Plain data, what stands for it in a heap, and the state of a body: some slots hold plain data, some hold lists of their own. -/
namespace TV
open PySem PySem.Spec PyProof.Rows L2

/-- plain data -/
inductive D where
  | non | bl (b : Bool) | int (i : Int) | str (x : Str) | ty (n : String) | ref (a : Addr) | emp
  | tup (xs : List D) | lst (xs : List D) | ins (C : Addr) (fs : List (Str × D))
  /-- a tuple whose object is known -/
  | tux (xs : List D)

abbrev Fs := List (Str × D)

def Ex (H H' : Hp) : Prop := ∀ a o, H a = some o → H' a = some o
theorem Ex.rfl {H : Hp} : Ex H H := fun _ _ h => h
theorem Ex.trans {H H1 H2 : Hp} (a : Ex H H1) (b : Ex H1 H2) : Ex H H2 := fun x o h => b x o (a x o h)
theorem Ex.new {H : Hp} {p : Addr} {o : HO} (h : H p = none) : Ex H (upd H p o) := fun a u e => by
  rw [upd_ne (ne_of_none e h)]; exact e
theorem Ex.back {H H' : Hp} {p : Addr} (e : Ex H H') (h : H' p = none) : H p = none := by
  cases q : H p with
  | none => rfl
  | some o => rw [e p o q] at h; cases h
theorem Ex.upd2 {H H' : Hp} {p : Addr} {o : HO} (e : Ex H H') : Ex (upd H p o) (upd H' p o) := fun a u h => by
  by_cases q : a = p
  · subst q; rw [upd_same] at h ⊢; exact h
  · rw [upd_ne q] at h ⊢; exact e a u h
theorem Ex.rd {H H' : Hp} {a : Addr} {u : HO} (e : Ex H H') (h : Rd H a u) : Rd H' a u := by
  rcases h with h | ⟨o, h⟩
  · exact Or.inl (e a _ h)
  · exact Or.inr ⟨o, e a _ h⟩
theorem Ex.sqL {K : PySem.W.Frag} {H H' : Hp} {a : Addr} {xs : List V} (e : Ex H H') (h : SqL K H a xs) : SqL K H' a xs := h.imp e.rd id
theorem Ex.sqT {K : PySem.W.Frag} {H H' : Hp} {a : Addr} {xs : List V} (e : Ex H H') (h : SqT K H a xs) : SqT K H' a xs := h.imp e.rd id

mutual
/-- the value v stands for the data d in the heap P -/
inductive Rp (K : PySem.W.Frag) (P : Hp) : V → D → Prop
  | non : Rp K P .non .non
  | bl (b : Bool) : Rp K P (.bl b) (.bl b)
  | int (i : Int) : Rp K P (.int i) (.int i)
  | str (x : Str) : Rp K P (.str x) (.str x)
  | ty (n : String) : Rp K P (.ty n) (.ty n)
  | ref (a : Addr) : Rp K P (.ref a) (.ref a)
  | emp {a : Addr} {kvs : List (Key × V)} : P a = some (.dK kvs) → Rp K P (.ref a) .emp
  | tux {a : Addr} {o : Obj} {vs : List V} {ds : List D} : P a = some (.frz o (.tup vs)) → o.dict = none → RpL K P vs ds → Rp K P (.ref a) (.tux ds)
  | tup {a : Addr} {vs : List V} {ds : List D} : SqT K P a vs → RpL K P vs ds → Rp K P (.ref a) (.tup ds)
  | lst {a : Addr} {vs : List V} {ds : List D} : SqL K P a vs → RpL K P vs ds → Rp K P (.ref a) (.lst ds)
  | ins {a C dx : Addr} {us : List (Str × V)} {fs : Fs} : P a = some (.ins C dx us) → RpF K P us fs → Rp K P (.ref a) (.ins C fs)
inductive RpL (K : PySem.W.Frag) (P : Hp) : List V → List D → Prop
  | nil : RpL K P [] []
  | cons {v : V} {d : D} {vs : List V} {ds : List D} : Rp K P v d → RpL K P vs ds → RpL K P (v :: vs) (d :: ds)
inductive RpF (K : PySem.W.Frag) (P : Hp) : List (Str × V) → Fs → Prop
  | nil : RpF K P [] []
  | cons {x : Str} {v : V} {d : D} {us : List (Str × V)} {fs : Fs} : Rp K P v d → RpF K P us fs → RpF K P ((x, v) :: us) ((x, d) :: fs)
end

mutual
theorem Rp.mono {K : PySem.W.Frag} {P P' : Hp} (e : Ex P P') : ∀ {v : V} {d : D}, Rp K P v d → Rp K P' v d
  | _, _, .non => .non
  | _, _, .bl b => .bl b
  | _, _, .int i => .int i
  | _, _, .str x => .str x
  | _, _, .ty n => .ty n
  | _, _, .ref a => .ref a
  | _, _, .emp h => .emp (e _ _ h)
  | _, _, .tux h z r => .tux (e _ _ h) z (r.mono e)
  | _, _, .tup h r => .tup (e.sqT h) (r.mono e)
  | _, _, .lst h r => .lst (e.sqL h) (r.mono e)
  | _, _, .ins h r => .ins (e _ _ h) (r.mono e)
theorem RpL.mono {K : PySem.W.Frag} {P P' : Hp} (e : Ex P P') : ∀ {vs : List V} {ds : List D}, RpL K P vs ds → RpL K P' vs ds
  | _, _, .nil => .nil
  | _, _, .cons h r => .cons (h.mono e) (r.mono e)
theorem RpF.mono {K : PySem.W.Frag} {P P' : Hp} (e : Ex P P') : ∀ {us : List (Str × V)} {fs : Fs}, RpF K P us fs → RpF K P' us fs
  | _, _, .nil => .nil
  | _, _, .cons h r => .cons (h.mono e) (r.mono e)
end
section
variable {K : PySem.W.Frag} {P : Hp}
theorem RpL.length : ∀ {vs : List V} {ds : List D}, RpL K P vs ds → vs.length = ds.length
  | _, _, .nil => rfl
  | _, _, .cons _ r => congrArg (· + 1) r.length
theorem RpL.append : ∀ {vs ws : List V} {ds es : List D}, RpL K P vs ds → RpL K P ws es → RpL K P (vs ++ ws) (ds ++ es)
  | _, _, _, _, .nil, s => s
  | _, _, _, _, .cons h r, s => .cons h (r.append s)
theorem RpL.one {v : V} {d : D} (h : Rp K P v d) : RpL K P [v] [d] := .cons h .nil
theorem RpL.get : ∀ {vs : List V} {ds : List D} {i : Nat} {v : V}, RpL K P vs ds → vs[i]? = some v → ∃ d, ds[i]? = some d ∧ Rp K P v d
  | _, _, _, _, .nil, h => by simp at h
  | _, _, 0, _, .cons h _, e => by simp at e; subst e; exact ⟨_, rfl, h⟩
  | _, _, i + 1, _, .cons _ r, e => by
    obtain ⟨d, h1, h2⟩ := r.get (i := i) (by simpa using e)
    exact ⟨d, by simpa using h1, h2⟩
theorem RpL.at : ∀ {vs : List V} {ds : List D} {i : Nat} {d : D}, RpL K P vs ds → ds[i]? = some d → ∃ v, vs[i]? = some v ∧ Rp K P v d
  | _, _, _, _, .nil, h => by simp at h
  | _, _, 0, _, .cons h _, e => by simp at e; subst e; exact ⟨_, rfl, h⟩
  | _, _, i + 1, _, .cons _ r, e => by
    obtain ⟨d, h1, h2⟩ := r.at (i := i) (by simpa using e)
    exact ⟨d, by simpa using h1, h2⟩
theorem RpL.set {v : V} {d : D} (h : Rp K P v d) : ∀ {vs : List V} {ds : List D} (i : Nat), RpL K P vs ds → RpL K P (vs.set i v) (ds.set i d)
  | _, _, _, .nil => .nil
  | _, _, 0, .cons _ r => .cons h r
  | _, _, i + 1, .cons q r => .cons q (RpL.set h i r)
theorem RpL.take : ∀ {vs : List V} {ds : List D} (n : Nat), RpL K P vs ds → RpL K P (vs.take n) (ds.take n)
  | _, _, 0, _ => .nil
  | _, _, _ + 1, .nil => .nil
  | _, _, n + 1, .cons h r => .cons h (RpL.take n r)
theorem RpL.drop : ∀ {vs : List V} {ds : List D} (n : Nat), RpL K P vs ds → RpL K P (vs.drop n) (ds.drop n)
  | _, _, 0, r => r
  | _, _, _ + 1, .nil => .nil
  | _, _, n + 1, .cons _ r => RpL.drop n r
theorem RpL.ints : ∀ {ns : List Int}, RpL K P (ns.map V.int) (ns.map D.int)
  | [] => .nil
  | n :: ns => .cons (.int n) RpL.ints
theorem RpL.ints_of : ∀ {vs : List V} {ns : List Int}, RpL K P vs (ns.map D.int) → vs = ns.map V.int
  | _, [], h => by cases h; rfl
  | _, n :: ns, h => by
    cases h with
    | cons h r =>
      cases h
      exact congrArg (V.int n :: ·) r.ints_of
theorem RpF.look : ∀ {us : List (Str × V)} {fs : Fs} {f : Str} {d : D}, RpF K P us fs → fs.lookup f = some d → ∃ v, us.lookup f = some v ∧ Rp K P v d
  | _, _, _, _, .nil, e => by simp at e
  | _, _, f, d, .cons (x := x) (v := v) (d := d') (us := us) (fs := fs) h r, e => by
    by_cases q : (f == x) = true
    · simp only [List.lookup, q] at e ⊢
      obtain rfl : d' = d := Option.some.inj e
      exact ⟨v, by rfl, h⟩
    · simp only [List.lookup, q] at e ⊢
      exact r.look e
theorem RpF.none_of : ∀ {us : List (Str × V)} {fs : Fs} {f : Str}, RpF K P us fs → fs.lookup f = none → us.lookup f = none
  | _, _, _, .nil, e => by simp
  | _, _, f, .cons (x := x) h r, e => by
    by_cases q : (f == x) = true
    · simp only [List.lookup, q] at e; cases e
    · simp only [List.lookup, q] at e ⊢
      exact r.none_of e
theorem RpF.length : ∀ {us : List (Str × V)} {fs : Fs}, RpF K P us fs → us.length = fs.length
  | _, _, .nil => rfl
  | _, _, .cons _ r => congrArg (· + 1) r.length
def putD (f : Str) (d : D) : Fs → Fs
  | [] => [(f, d)]
  | (x, e) :: r => if x = f then (x, d) :: r else (x, e) :: putD f d r
theorem RpF.put {f : Str} {v : V} {d : D} (h : Rp K P v d) : ∀ {us : List (Str × V)} {fs : Fs}, RpF K P us fs → RpF K P (putF f v us) (putD f d fs)
  | _, _, .nil => .cons h .nil
  | _, _, .cons (x := x) q r => by
    unfold putF putD
    by_cases e : x = f
    · rw [if_pos e, if_pos e]; exact .cons h r
    · rw [if_neg e, if_neg e]; exact .cons q (RpF.put h r)
end

/-! ### slots -/
/-- what may be changed: a list, an instance; an exception's own dict -/
inductive Ob where
  | lst (xs : List D) | ins (C : Addr) (fs : Fs) | xd (fs : Fs) | rg (a : Addr) (o : Ob)
/-- nothing known, plain data, an object of the body's own, the i-th object that was handed in to be changed -/
inductive Sl where
  | no | pu (d : D) | ow (o : Ob) | ar (i : Nat)
structure Gam where
  sl : List Sl
  ar : List Ob
/-- the entry: objects that were handed in to be changed, the plain part of the heap, the heap; T: new objects that stand in no slot yet -/
structure Bs where
  A : List Addr
  P0 : Hp
  H0 : Hp
  T : List (Addr × Ob)
inductive ObAt (K : PySem.W.Frag) (P H : Hp) (p : Addr) : Ob → Prop
  | lst {vs : List V} {xs : List D} : H p = some (.lst vs) → RpL K P vs xs → ObAt K P H p (.lst xs)
  | ins {C dx : Addr} {us : List (Str × V)} {fs : Fs} : H p = some (.ins C dx us) → RpF K P us fs → ObAt K P H p (.ins C fs)
  | xd {us : List (Str × V)} {fs : Fs} : H p = some (.xd us) → RpF K P us fs → ObAt K P H p (.xd fs)
inductive SlOk (K : PySem.W.Frag) (B : Bs) (P H : Hp) : Option V → Sl → List Addr → Prop
  | no {v : Option V} : SlOk K B P H v .no []
  | pu {v : V} {d : D} : Rp K P v d → SlOk K B P H (some v) (.pu d) []
  | ow {p : Addr} {o : Ob} : P p = none → B.H0 p = none → ObAt K P H p o → SlOk K B P H (some (.ref p)) (.ow o) [p]
  | ar {p : Addr} {i : Nat} : B.A[i]? = some p → SlOk K B P H (some (.ref p)) (.ar i) []
inductive SlsOk (K : PySem.W.Frag) (B : Bs) (P H : Hp) : L2.St → List Sl → List Addr → Prop
  | nil : SlsOk K B P H [] [] []
  | cons {v : Option V} {s : Sl} {σ : L2.St} {l : List Sl} {m M : List Addr} : SlOk K B P H v s m → SlsOk K B P H σ l M → SlsOk K B P H (v :: σ) (s :: l) (m ++ M)
inductive ArOk (K : PySem.W.Frag) (P H : Hp) : List Addr → List Ob → Prop
  | nil {l : List Ob} : (∀ o, o ∈ l → ∃ a u, o = .rg a u) → ArOk K P H [] l
  | cons {p : Addr} {o : Ob} {A : List Addr} {l : List Ob} : P p = none → ObAt K P H p o → ArOk K P H A l → ArOk K P H (p :: A) (o :: l)
/-- an object of the body's own whose place in the heap is named: it stands behind the objects that were handed in -/
def regV1 : Ob → Option (Option V)
  | .rg a _ => some (some (.ref a))
  | _ => none
def regS1 : Ob → Option Sl
  | .rg _ o => some (.ow o)
  | _ => none
def regV (l : List Ob) : L2.St := l.filterMap regV1
def regS (l : List Ob) : List Sl := l.filterMap regS1
def tmV (T : List (Addr × Ob)) : L2.St := T.map fun q => some (V.ref q.1)
def tmS (T : List (Addr × Ob)) : List Sl := T.map fun q => Sl.ow q.2
structure Holds (K : PySem.W.Frag) (B : Bs) (G : Gam) (σ : L2.St) (P H : Hp) : Prop where
  sls : ∃ M, SlsOk K B P H (σ ++ (regV G.ar ++ tmV B.T)) (G.sl ++ (regS G.ar ++ tmS B.T)) M ∧ M.Nodup
  slen : σ.length = G.sl.length
  ars : ArOk K P H B.A G.ar
  nda : B.A.Nodup
  a0 : ∀ p, p ∈ B.A → B.H0 p ≠ none
  ex : Ex P H
  p0 : Ex B.P0 P
  h0 : ∀ b o, b ∉ B.A → B.H0 b = some o → H b = some o
  new : ∀ a, B.P0 a = none → P a ≠ none → B.H0 a = none

section
variable {K : PySem.W.Frag} {B : Bs} {P P' H H' : Hp}
theorem ObAt.some {p : Addr} {o : Ob} (h : ObAt K P H p o) : H p ≠ none := by
  cases h with
  | lst h _ => rw [h]; exact fun z => nomatch z
  | ins h _ => rw [h]; exact fun z => nomatch z
  | xd h _ => rw [h]; exact fun z => nomatch z
theorem ObAt.step {p : Addr} {o : Ob} (h : ObAt K P H p o) (e : Ex P P') (k : H' p = H p) : ObAt K P' H' p o := by
  cases h with
  | lst h r => exact .lst (k.trans h) (r.mono e)
  | ins h r => exact .ins (k.trans h) (r.mono e)
  | xd h r => exact .xd (k.trans h) (r.mono e)
theorem SlOk.own {v : Option V} {s : Sl} {m : List Addr} (h : SlOk K B P H v s m) : ∀ p ∈ m, P p = none ∧ B.H0 p = none ∧ H p ≠ none := by
  intro p hp
  cases h with
  | no => cases hp
  | pu _ => cases hp
  | ar _ => cases hp
  | ow a b c => obtain rfl := List.mem_singleton.mp hp; exact ⟨a, b, c.some⟩
theorem SlsOk.own : ∀ {σ : L2.St} {l : List Sl} {M : List Addr}, SlsOk K B P H σ l M → ∀ p ∈ M, P p = none ∧ B.H0 p = none ∧ H p ≠ none
  | _, _, _, .nil, _, h => by cases h
  | _, _, _, .cons h r, p, hp => (List.mem_append.mp hp).elim (h.own p) (r.own p)
/-- the plain part grows, what is owned stands as it stood -/
theorem SlOk.step {v : Option V} {s : Sl} {m : List Addr} (h : SlOk K B P H v s m) (e : Ex P P') (n : ∀ p ∈ m, P' p = none) (k : ∀ p ∈ m, H' p = H p) : SlOk K B P' H' v s m := by
  cases h with
  | no => exact .no
  | pu r => exact .pu (r.mono e)
  | ar q => exact .ar q
  | ow a b c => exact .ow (n _ List.mem_cons_self) b (c.step e (k _ List.mem_cons_self))
theorem SlsOk.step : ∀ {σ : L2.St} {l : List Sl} {M : List Addr}, SlsOk K B P H σ l M → Ex P P' → (∀ p ∈ M, P' p = none) → (∀ p ∈ M, H' p = H p) → SlsOk K B P' H' σ l M
  | _, _, _, .nil, _, _, _ => .nil
  | _, _, _, .cons h r, e, n, k => .cons (h.step e (fun p hp => n p (List.mem_append_left _ hp)) fun p hp => k p (List.mem_append_left _ hp)) (r.step e (fun p hp => n p (List.mem_append_right _ hp)) fun p hp => k p (List.mem_append_right _ hp))
theorem SlsOk.len : ∀ {σ : L2.St} {l : List Sl} {M : List Addr}, SlsOk K B P H σ l M → σ.length = l.length
  | _, _, _, .nil => rfl
  | _, _, _, .cons _ r => congrArg (· + 1) r.len
theorem ArOk.none : ∀ {A : List Addr} {l : List Ob}, ArOk K P H A l → ∀ p ∈ A, P p = none
  | _, _, .nil _, _, h => by cases h
  | _, _, .cons h _ r, p, hp => (List.mem_cons.mp hp).elim (fun e => by subst e; exact h) (r.none p)
theorem ArOk.step : ∀ {A : List Addr} {l : List Ob}, ArOk K P H A l → Ex P P' → (∀ p ∈ A, P' p = .none) → (∀ p ∈ A, H' p = H p) → ArOk K P' H' A l
  | _, _, .nil q, _, _, _ => .nil q
  | _, _, .cons h o r, e, n, k => .cons (n _ List.mem_cons_self) (o.step e (k _ List.mem_cons_self)) (r.step e (fun p hp => n p (List.mem_cons_of_mem _ hp)) fun p hp => k p (List.mem_cons_of_mem _ hp))
theorem ArOk.get : ∀ {A : List Addr} {l : List Ob} {i : Nat} {p : Addr} {o : Ob}, ArOk K P H A l → A[i]? = some p → l[i]? = some o → P p = .none ∧ ObAt K P H p o
  | _, _, _, _, _, .nil _, h, _ => by simp at h
  | _, _, 0, _, _, .cons h o _, e, e' => by simp at e e'; subst e; subst e'; exact ⟨h, o⟩
  | _, _, i + 1, _, _, .cons _ _ r, e, e' => r.get (i := i) (by simpa using e) (by simpa using e')
/-- the i-th one changes -/
theorem ArOk.put : ∀ {A : List Addr} {l : List Ob} {i : Nat} {p : Addr} {o : Ob}, ArOk K P H A l → A.Nodup → A[i]? = some p → (∀ b, b ≠ p → H' b = H b) → ObAt K P H' p o → ArOk K P H' A (l.set i o)
  | _, _, _, _, _, .nil _, _, h, _, _ => by simp at h
  | _, _, 0, p, _, .cons h o r, nd, e, k, o' => by
    simp at e; subst e
    have nd' := List.nodup_cons.mp nd
    exact .cons h o' (r.step Ex.rfl r.none fun b hb => k b fun z => nd'.1 (z ▸ hb))
  | _, _, i + 1, p, _, .cons h o r, nd, e, k, o' => by
    have nd' := List.nodup_cons.mp nd
    have e' := e
    rw [List.getElem?_cons_succ] at e'
    refine .cons h (o.step Ex.rfl (k _ fun z => nd'.1 ?_)) (r.put (i := i) nd'.2 e' k o')
    rw [z]; exact List.mem_of_getElem? e'
/-- a slot is read -/
theorem SlsOk.get : ∀ {σ : L2.St} {l : List Sl} {M : List Addr} {i : Nat} {s : Sl}, SlsOk K B P H σ l M → l[i]? = some s → ∃ v m, σ[i]? = some v ∧ SlOk K B P H v s m ∧ ∀ p ∈ m, p ∈ M
  | _, _, _, _, _, .nil, h => by simp at h
  | _, _, _, 0, _, .cons h _, e => by simp at e; subst e; exact ⟨_, _, rfl, h, fun p hp => List.mem_append_left _ hp⟩
  | _, _, _, i + 1, _, .cons _ r, e => by
    obtain ⟨v, m, h1, h2, h3⟩ := r.get (i := i) (by simpa using e)
    exact ⟨v, m, by simpa using h1, h2, fun p hp => List.mem_append_right _ (h3 p hp)⟩
/-- a slot is set to what owns nothing -/
theorem SlsOk.put {v : Option V} {s : Sl} (hs : SlOk K B P H v s []) : ∀ {σ : L2.St} {l : List Sl} {M : List Addr} (i : Nat), SlsOk K B P H σ l M → M.Nodup → ∃ M', SlsOk K B P H (σ.set i v) (l.set i s) M' ∧ M'.Nodup ∧ ∀ p ∈ M', p ∈ M
  | _, _, _, _, .nil, nd => ⟨[], .nil, nd, fun _ h => h⟩
  | _, _, _, 0, .cons (m := m) (M := M) _ r, nd => ⟨[] ++ M, .cons hs r, (List.nodup_append.mp nd).2.1, fun p hp => List.mem_append_right _ hp⟩
  | _, _, _, i + 1, .cons (m := m) (M := M) h r, nd => by
    obtain ⟨M', h1, h2, h3⟩ := SlsOk.put hs i r (List.nodup_append.mp nd).2.1
    refine ⟨m ++ M', .cons h h1, ?_, fun p hp => (List.mem_append.mp hp).elim (List.mem_append_left _) fun z => List.mem_append_right _ (h3 p z)⟩
    have q := List.nodup_append.mp nd
    exact List.nodup_append.mpr ⟨q.1, h2, fun a ha b hb => q.2.2 a ha b (h3 b hb)⟩
/-- a slot is set to a new object of its own -/
theorem SlsOk.putO {p : Addr} {o : Ob} (hp : P p = none) (h0 : B.H0 p = none) (ho : ObAt K P H p o) : ∀ {σ : L2.St} {l : List Sl} {M : List Addr} (i : Nat), SlsOk K B P H σ l M → M.Nodup → p ∉ M → ∃ M', SlsOk K B P H (σ.set i (some (.ref p))) (l.set i (.ow o)) M' ∧ M'.Nodup ∧ ∀ a ∈ M', a ∈ M ∨ a = p
  | _, _, _, _, .nil, nd, _ => ⟨[], .nil, nd, fun _ h => .inl h⟩
  | _, _, _, 0, .cons (m := m) (M := M) _ r, nd, np => ⟨[p] ++ M, .cons (.ow hp h0 ho) r, List.nodup_cons.mpr ⟨fun z => np (List.mem_append_right _ z), (List.nodup_append.mp nd).2.1⟩, fun a ha => (List.mem_cons.mp ha).elim .inr fun z => .inl (List.mem_append_right _ z)⟩
  | _, _, _, i + 1, .cons (m := m) (M := M) h r, nd, np => by
    obtain ⟨M', h1, h2, h3⟩ := SlsOk.putO hp h0 ho i r (List.nodup_append.mp nd).2.1 fun z => np (List.mem_append_right _ z)
    refine ⟨m ++ M', .cons h h1, ?_, fun a ha => (List.mem_append.mp ha).elim (fun z => .inl (List.mem_append_left _ z)) fun z => (h3 a z).imp (List.mem_append_right _) id⟩
    have q := List.nodup_append.mp nd
    refine List.nodup_append.mpr ⟨q.1, h2, fun a ha b hb e => ?_⟩
    rcases h3 b hb with z | z
    · exact q.2.2 a ha b z e
    · exact np (List.mem_append_left _ (z ▸ e ▸ ha))
/-- the object of a slot changes -/
theorem SlsOk.chg {p : Addr} {o o' : Ob} (k : ∀ b, b ≠ p → H' b = H b) (ho : ObAt K P H' p o') : ∀ {σ : L2.St} {l : List Sl} {M : List Addr} (i : Nat), SlsOk K B P H σ l M → M.Nodup → l[i]? = some (.ow o) → σ[i]? = some (some (.ref p)) → SlsOk K B P H' σ (l.set i (.ow o')) M
  | _, _, _, _, .nil, _, h, _ => by simp at h
  | _, _, _, 0, .cons (m := m) (M := M) h r, nd, e, e' => by
    simp at e e'; subst e; subst e'
    cases h with
    | ow a b c =>
      have q := List.nodup_append.mp nd
      exact .cons (.ow a b ho) (r.step Ex.rfl (fun b hb => (r.own b hb).1) fun b hb => k b fun z => q.2.2 p List.mem_cons_self b hb z.symm)
  | _, _, _, i + 1, .cons (m := m) (M := M) h r, nd, e, e' => by
    have q := List.nodup_append.mp nd
    rw [List.getElem?_cons_succ] at e e'
    obtain ⟨v, m', h1, h2, h3⟩ := r.get e
    rw [e'] at h1; cases h1
    have pm : p ∈ M := by
      cases h2 with
      | ow _ _ _ => exact h3 p List.mem_cons_self
    exact .cons (h.step Ex.rfl (fun b hb => (h.own b hb).1) fun b hb => k b fun z => q.2.2 b hb p pm z) (r.chg k ho i q.2.1 e e')
/-- a slot's object becomes plain -/
theorem SlsOk.frz {p : Addr} {o : Ob} {d : D} (e : Ex P P') (hd : Rp K P' (.ref p) d) (hP : ∀ b, b ≠ p → P b = none → P' b = none) : ∀ {σ : L2.St} {l : List Sl} {M : List Addr} (i : Nat), SlsOk K B P H σ l M → M.Nodup → l[i]? = some (.ow o) → σ[i]? = some (some (.ref p)) →
    ∃ M', SlsOk K B P' H σ (l.set i (.pu d)) M' ∧ M'.Nodup ∧ ∀ a ∈ M', a ∈ M
  | _, _, _, _, .nil, _, h, _ => by simp at h
  | _, _, _, 0, .cons (m := m) (M := M) h r, nd, e1, e' => by
    simp at e1 e'; subst e1; subst e'
    cases h with
    | ow a b c =>
      have q := List.nodup_append.mp nd
      exact ⟨[] ++ M, .cons (.pu hd) (r.step e (fun b hb => hP b (fun z => q.2.2 p List.mem_cons_self b hb z.symm) (r.own b hb).1) fun _ _ => rfl), q.2.1, fun a ha => List.mem_append_right _ ha⟩
  | _, _, _, i + 1, .cons (m := m) (M := M) h r, nd, e1, e' => by
    have q := List.nodup_append.mp nd
    rw [List.getElem?_cons_succ] at e1 e'
    obtain ⟨v, m', h1, h2, h3⟩ := r.get e1
    rw [e'] at h1; cases h1
    have pm : p ∈ M := by
      cases h2 with
      | ow _ _ _ => exact h3 p List.mem_cons_self
    obtain ⟨M', g1, g2, g3⟩ := r.frz e hd hP i q.2.1 e1 e'
    exact ⟨m ++ M', .cons (h.step e (fun b hb => hP b (fun z => q.2.2 b hb p pm z) (h.own b hb).1) fun _ _ => rfl) g1, List.nodup_append.mpr ⟨q.1, g2, fun a ha b hb => q.2.2 a ha b (g3 b hb)⟩, fun a ha => (List.mem_append.mp ha).elim (List.mem_append_left _) fun z => List.mem_append_right _ (g3 a z)⟩
theorem ObAt.norg {p : Addr} {o : Ob} (h : ObAt K P H p o) : regS1 o = none ∧ regV1 o = none := by cases h <;> exact ⟨rfl, rfl⟩
theorem fm_set {α β : Type} {f : α → Option β} : ∀ {l : List α} {k : Nat} {x y : α}, l[k]? = some x → f x = none → f y = none → (l.set k y).filterMap f = l.filterMap f
  | [], _, _, _, h, _, _ => by simp at h
  | z :: l, 0, x, y, h, hx, hy => by
    simp at h
    subst h
    rw [List.set_cons_zero, List.filterMap_cons_none hy, List.filterMap_cons_none hx]
  | z :: l, k + 1, x, y, h, hx, hy => by
    rw [List.getElem?_cons_succ] at h
    rw [List.set_cons_succ, List.filterMap_cons, List.filterMap_cons, fm_set h hx hy]
theorem regS_set {l : List Ob} {k : Nat} {x y : Ob} {p q : Addr} {P1 H1 : Hp} (h : l[k]? = some x) (hx : ObAt K P H p x) (hy : ObAt K P1 H1 q y) : regS (l.set k y) = regS l := fm_set h hx.norg.1 hy.norg.1
theorem regV_set {l : List Ob} {k : Nat} {x y : Ob} {p q : Addr} {P1 H1 : Hp} (h : l[k]? = some x) (hx : ObAt K P H p x) (hy : ObAt K P1 H1 q y) : regV (l.set k y) = regV l := fm_set h hx.norg.2 hy.norg.2
end
end TV
namespace TV
open PySem PySem.Spec PyProof.Rows L2
section
variable {K : PySem.W.Frag} {B : Bs} {G : Gam} {σ : L2.St} {P P' H H' : Hp}
theorem Holds.fresh (h : Holds K B G σ P H) {p : Addr} (hp : H p = none) : P p = none ∧ B.H0 p = none ∧ p ∉ B.A := by
  have n : p ∉ B.A := fun z => by
    obtain ⟨i, hi⟩ := List.getElem?_of_mem z
    have : ∀ {A : List Addr} {l : List Ob}, ArOk K P H A l → ∀ q ∈ A, H q ≠ none := by
      intro A l a
      induction a with
      | nil _ => intro q hq; cases hq
      | cons _ o _ ih => intro q hq; rcases List.mem_cons.mp hq with e | e; exact e ▸ o.some; exact ih q e
    exact this h.ars p z hp
  refine ⟨h.ex.back hp, ?_, n⟩
  cases q : B.H0 p with
  | none => rfl
  | some o => rw [h.h0 p o n q] at hp; cases hp
theorem Holds.ara (h : Holds K B G σ P H) : ∀ q ∈ B.A, H q ≠ none := fun q hq z => (h.fresh z).2.2 hq
/-- the heap grows, the plain part with it (by new things alone) -/
theorem Holds.grow (h : Holds K B G σ P H) (e : Ex P P') (x : Ex P' H') (k : Ex H H') (n : ∀ a, P a = none → P' a ≠ none → H a = none) : Holds K B G σ P' H' := by
  have same : ∀ p, H p ≠ none → H' p = H p := fun p hp => by
    cases q : H p with
    | none => exact absurd q hp
    | some o => exact k p o q
  have still : ∀ p, H p ≠ none → P p = none → P' p = none := fun p hp hn => by
    cases q : P' p with
    | none => rfl
    | some o => exact absurd (n p hn (by rw [q]; exact fun z => nomatch z)) hp
  obtain ⟨M, s, nd⟩ := h.sls
  refine ⟨⟨M, s.step e (fun p hp => still p (s.own p hp).2.2 (s.own p hp).1) (fun p hp => same p (s.own p hp).2.2), nd⟩, h.slen, ?_, h.nda, h.a0, x, h.p0.trans e, fun b o hb q => k b o (h.h0 b o hb q), fun a ha hp => ?_⟩
  · exact h.ars.step e (fun p hp => still p (h.ara p hp) (h.ars.none p hp)) fun p hp => same p (h.ara p hp)
  · by_cases q : P a = none
    · exact (h.fresh (n a q hp)).2.1
    · exact h.new a ha q
theorem Holds.more (h : Holds K B G σ P H) (k : Ex H H') : Holds K B G σ P H' := h.grow Ex.rfl (h.ex.trans k) k fun a x y => absurd x y
/-- a new plain object -/
theorem Holds.newP (h : Holds K B G σ P H) {p : Addr} {o : HO} (hp : H p = none) : Holds K B G σ (upd P p o) (upd H p o) ∧ Ex P (upd P p o) := by
  have np := (h.fresh hp).1
  refine ⟨h.grow (Ex.new np) h.ex.upd2 (Ex.new hp) fun a x y => ?_, Ex.new np⟩
  by_cases q : a = p
  · rw [q]; exact hp
  · rw [upd_ne q] at y; exact absurd x y
theorem set_app {α : Type} {l r : List α} {i : Nat} {x : α} (h : i < l.length) : (l ++ r).set i x = l.set i x ++ r := by
  rw [List.set_append, if_pos h]
theorem Holds.putN (h : Holds K B G σ P H) {v : Option V} {s : Sl} (r : SlOk K B P H v s []) {i : Nat} (hi : i < G.sl.length) : Holds K B { G with sl := G.sl.set i s } (σ.set i v) P H := by
  obtain ⟨M, q, nd⟩ := h.sls
  obtain ⟨M', a, b, _⟩ := SlsOk.put r i q nd
  rw [set_app hi, set_app (h.slen ▸ hi)] at a
  exact ⟨⟨M', a, b⟩, by rw [List.length_set, List.length_set]; exact h.slen, h.ars, h.nda, h.a0, h.ex, h.p0, h.h0, h.new⟩
theorem Holds.set (h : Holds K B G σ P H) {v : V} {d : D} (r : Rp K P v d) {i : Nat} (hi : i < G.sl.length) : Holds K B { G with sl := G.sl.set i (.pu d) } (σ.set i (some v)) P H := h.putN (.pu r) hi
theorem lt_of_at {α : Type} {l : List α} {i : Nat} {x : α} (h : l[i]? = some x) : i < l.length := (List.getElem?_eq_some_iff.mp h).1
theorem at_app {α : Type} {l r : List α} {i : Nat} {x : α} (h : l[i]? = some x) : (l ++ r)[i]? = some x := by
  rw [List.getElem?_append_left (lt_of_at h)]; exact h
theorem of_app {α : Type} {l r : List α} {i : Nat} {x : α} (hi : i < l.length) (h : (l ++ r)[i]? = some x) : l[i]? = some x := by
  rw [List.getElem?_append_left hi] at h; exact h
theorem Holds.slot (h : Holds K B G σ P H) {i : Nat} {s : Sl} (e : G.sl[i]? = some s) : ∃ v m, σ[i]? = some v ∧ SlOk K B P H v s m := by
  obtain ⟨M, q, _⟩ := h.sls
  obtain ⟨v, m, h1, h2, _⟩ := q.get (at_app e)
  exact ⟨v, m, of_app (h.slen ▸ lt_of_at e) h1, h2⟩
theorem Holds.get (h : Holds K B G σ P H) {i : Nat} {d : D} (e : G.sl[i]? = some (.pu d)) : ∃ v, σ[i]? = some (some v) ∧ Rp K P v d := by
  obtain ⟨v, m, h1, h2⟩ := h.slot e
  cases h2 with
  | pu r => exact ⟨_, h1, r⟩
theorem Holds.getO (h : Holds K B G σ P H) {i : Nat} {o : Ob} (e : G.sl[i]? = some (.ow o)) : ∃ p, σ[i]? = some (some (.ref p)) ∧ P p = none ∧ B.H0 p = none ∧ ObAt K P H p o := by
  obtain ⟨v, m, h1, h2⟩ := h.slot e
  cases h2 with
  | ow a b c => exact ⟨_, h1, a, b, c⟩
theorem Holds.getA (h : Holds K B G σ P H) {i k : Nat} {o : Ob} (e : G.sl[i]? = some (.ar k)) (eo : G.ar[k]? = some o) : ∃ p, σ[i]? = some (some (.ref p)) ∧ B.A[k]? = some p ∧ P p = none ∧ ObAt K P H p o := by
  obtain ⟨v, m, h1, h2⟩ := h.slot e
  cases h2 with
  | ar q =>
    obtain ⟨a, b⟩ := h.ars.get q eo
    exact ⟨_, h1, q, a, b⟩
theorem ex_upd_own {p : Addr} {u : HO} (x : Ex P H) (n : P p = none) : Ex P (upd H p u) := fun a o e => by
  rw [upd_ne (ne_of_none e n)]; exact x a o e
/-- the object of a slot changes -/
theorem Holds.chg (h : Holds K B G σ P H) {i : Nat} {p : Addr} {o o' : Ob} {u : HO} (e : G.sl[i]? = some (.ow o)) (es : σ[i]? = some (some (.ref p))) (ho : ObAt K P (upd H p u) p o') : Holds K B { G with sl := G.sl.set i (.ow o') } σ P (upd H p u) := by
  obtain ⟨q, hq, n, n0, _⟩ := h.getO e
  rw [es] at hq; cases hq
  obtain ⟨M, s, nd⟩ := h.sls
  have na : p ∉ B.A := fun z => h.a0 p z n0
  have sc := s.chg (fun b hb => upd_ne hb) ho i nd (at_app e) (at_app es)
  rw [set_app (lt_of_at e)] at sc
  refine ⟨⟨M, sc, nd⟩, by rw [List.length_set]; exact h.slen, ?_, h.nda, h.a0, ex_upd_own h.ex n, h.p0, fun b z hb q => ?_, h.new⟩
  · exact h.ars.step Ex.rfl h.ars.none fun b hb => upd_ne fun z => na (z ▸ hb)
  · rw [upd_ne (ne_of_none q n0)]; exact h.h0 b z hb q
/-- an object that was handed in changes -/
theorem Holds.chgA (h : Holds K B G σ P H) {k : Nat} {p : Addr} {o o' : Ob} {u : HO} (eA : B.A[k]? = some p) (eo : G.ar[k]? = some o) (ho : ObAt K P (upd H p u) p o') : Holds K B { G with ar := G.ar.set k o' } σ P (upd H p u) := by
  obtain ⟨n, ox⟩ := h.ars.get eA eo
  have ha : p ∈ B.A := List.mem_of_getElem? eA
  obtain ⟨M, s, nd⟩ := h.sls
  rw [← regS_set eo ox ho, ← regV_set eo ox ho] at s
  refine ⟨⟨M, s.step Ex.rfl (fun b hb => (s.own b hb).1) (fun b hb => upd_ne fun z => ?_), nd⟩, h.slen, ?_, h.nda, h.a0, ex_upd_own h.ex n, h.p0, fun b z hb q => ?_, h.new⟩
  · exact h.a0 p ha (z ▸ (s.own b hb).2.1)
  · exact h.ars.put h.nda eA (fun b hb => upd_ne hb) ho
  · rw [upd_ne (fun y : b = p => hb (by rw [y]; exact ha))]; exact h.h0 b z hb q
/-- a slot's object becomes plain -/
theorem Holds.frz (h : Holds K B G σ P H) {i : Nat} {p : Addr} {o : Ob} {u : HO} {d : D} (e : G.sl[i]? = some (.ow o)) (es : σ[i]? = some (some (.ref p))) (hu : H p = some u) (hd : Rp K (upd P p u) (.ref p) d) :
    Holds K B { G with sl := G.sl.set i (.pu d) } σ (upd P p u) H ∧ Ex P (upd P p u) := by
  obtain ⟨q, hq, n, n0, _⟩ := h.getO e
  rw [es] at hq; cases hq
  obtain ⟨M, s, nd⟩ := h.sls
  have na : p ∉ B.A := fun z => h.a0 p z n0
  have x : Ex P (upd P p u) := Ex.new n
  obtain ⟨M', a, b, _⟩ := s.frz x hd (fun b hb z => by rw [upd_ne hb]; exact z) i nd (at_app e) (at_app es)
  rw [set_app (lt_of_at e)] at a
  refine ⟨⟨⟨M', a, b⟩, by rw [List.length_set]; exact h.slen, h.ars.step x (fun b hb => ?_) (fun _ _ => rfl), h.nda, h.a0, fun b z q => ?_, h.p0.trans x, h.h0, fun b hb z => ?_⟩, x⟩
  · rw [upd_ne (fun y : b = p => na (by rw [← y]; exact hb))]; exact h.ars.none b hb
  · by_cases y : b = p
    · subst y; rw [upd_same] at q; rw [hu]; exact q
    · rw [upd_ne y] at q; exact h.ex b z q
  · by_cases y : b = p
    · rw [y]; exact n0
    · rw [upd_ne y] at z; exact h.new b hb z
/-- a slot's list becomes plain -/
theorem Holds.frzL (h : Holds K B G σ P H) {i : Nat} {xs : List D} (e : G.sl[i]? = some (.ow (.lst xs))) :
    ∃ p P', σ[i]? = some (some (.ref p)) ∧ Holds K B { G with sl := G.sl.set i (.pu (.lst xs)) } σ P' H ∧ Ex P P' ∧ Rp K P' (.ref p) (.lst xs) := by
  obtain ⟨p, hp, n, n0, o⟩ := h.getO e
  cases o with
  | lst hu r =>
    have rd : Rp K (upd P p (.lst _)) (.ref p) (.lst xs) := .lst (.inl (.inl upd_same)) (r.mono (Ex.new n))
    obtain ⟨a, b⟩ := h.frz e hp hu rd
    exact ⟨p, _, hp, a, b, rd⟩
end

/-! ### new objects that stand in no slot -/
section
variable {K : PySem.W.Frag} {B : Bs} {G : Gam} {σ : L2.St} {P P' H H' : Hp}
def Bs.push (B : Bs) (p : Addr) (o : Ob) : Bs := { B with T := B.T ++ [(p, o)] }
theorem SlOk.base {B' : Bs} (e1 : B'.A = B.A) (e2 : B'.H0 = B.H0) {v : Option V} {s : Sl} {m : List Addr} (h : SlOk K B P H v s m) : SlOk K B' P H v s m := by
  cases h with
  | no => exact .no
  | pu r => exact .pu r
  | ar q => exact .ar (by rw [e1]; exact q)
  | ow a b c => exact .ow a (by rw [e2]; exact b) c
theorem SlsOk.base {B' : Bs} (e1 : B'.A = B.A) (e2 : B'.H0 = B.H0) : ∀ {σ : L2.St} {l : List Sl} {M : List Addr}, SlsOk K B P H σ l M → SlsOk K B' P H σ l M
  | _, _, _, .nil => .nil
  | _, _, _, .cons h r => .cons (h.base e1 e2) (r.base e1 e2)
theorem SlsOk.pop : ∀ {σ : L2.St} {l : List Sl} {M : List Addr} {v : Option V} {s : Sl}, SlsOk K B P H (σ ++ [v]) (l ++ [s]) M → ∃ M' m, M = M' ++ m ∧ SlsOk K B P H σ l M' ∧ SlOk K B P H v s m
  | [], [], _, _, _, h => by
    cases h with
    | cons a r => cases r; exact ⟨[], _, by simp, .nil, a⟩
  | [], t :: l, _, _, _, h => by
    cases h with
    | cons _ r =>
      have := r.len
      simp at this
  | v :: σ, [], _, _, _, h => by
    cases h with
    | cons _ r =>
      have := r.len
      simp at this
  | v :: σ, t :: l, _, _, _, h => by
    cases h with
    | cons a r =>
      obtain ⟨M', m, e, h1, h2⟩ := r.pop
      exact ⟨_ ++ M', m, by rw [e, List.append_assoc], .cons a h1, h2⟩
theorem SlsOk.push {v : Option V} {s : Sl} {m : List Addr} (a : SlOk K B P H v s m) : ∀ {σ : L2.St} {l : List Sl} {M : List Addr}, SlsOk K B P H σ l M → SlsOk K B P H (σ ++ [v]) (l ++ [s]) (M ++ m)
  | _, _, _, .nil => by
    have := SlsOk.cons a .nil
    rw [List.append_nil] at this
    exact this
  | _, _, _, .cons b r => by
    rw [List.append_assoc]
    exact .cons b (SlsOk.push a r)
theorem tmS_push {p : Addr} {o : Ob} {l r : List Sl} : (l ++ (r ++ tmS (B.push p o).T)) = (l ++ (r ++ tmS B.T)) ++ [.ow o] := by
  unfold Bs.push tmS
  simp
theorem tmV_push {p : Addr} {o : Ob} {l r : L2.St} : (l ++ (r ++ tmV (B.push p o).T)) = (l ++ (r ++ tmV B.T)) ++ [some (.ref p)] := by
  unfold Bs.push tmV
  simp
theorem SlsOk.unpush {p : Addr} {o : Ob} {σ : L2.St} {l : List Sl} {M : List Addr} (h : SlsOk K (B.push p o) P H σ l M) : SlsOk K B P H σ l M := SlsOk.base (B := B.push p o) (B' := B) rfl rfl h
theorem SlsOk.topush {p : Addr} {o : Ob} {σ : L2.St} {l : List Sl} {M : List Addr} (h : SlsOk K B P H σ l M) : SlsOk K (B.push p o) P H σ l M := SlsOk.base (B := B) (B' := B.push p o) rfl rfl h
theorem Holds.popT {p : Addr} {o : Ob} (h : Holds K (B.push p o) G σ P H) : Holds K B G σ P H ∧ P p = none ∧ B.H0 p = none ∧ ObAt K P H p o ∧ p ∉ B.A := by
  obtain ⟨M, q, nd⟩ := h.sls
  rw [tmS_push, tmV_push] at q
  obtain ⟨M', m, e, h1, h2⟩ := q.pop
  subst e
  cases h2 with
  | ow a b c =>
    exact ⟨⟨⟨M', h1.unpush, (List.nodup_append.mp nd).1⟩, h.slen, h.ars, h.nda, h.a0, h.ex, h.p0, h.h0, h.new⟩, a, b, c, fun z => h.a0 p z b⟩
theorem Holds.pushT (h : Holds K B G σ P H) {p : Addr} {o : Ob} {u : HO} (hp : H p = none) (ho : ObAt K P (upd H p u) p o) : Holds K (B.push p o) G σ P (upd H p u) := by
  have q := h.fresh hp
  have h' : Holds K B G σ P (upd H p u) := h.more (Ex.new hp)
  obtain ⟨M, s, nd⟩ := h.sls
  have s' : SlsOk K B P (upd H p u) (σ ++ (regV G.ar ++ tmV B.T)) (G.sl ++ (regS G.ar ++ tmS B.T)) M := s.step Ex.rfl (fun b hb => (s.own b hb).1) fun b hb => upd_ne fun z => (s.own b hb).2.2 (z ▸ hp)
  refine ⟨⟨M ++ [p], ?_, List.nodup_append.mpr ⟨nd, List.nodup_cons.mpr ⟨by simp, List.nodup_nil⟩, fun a ha b hb e => ?_⟩⟩, h.slen, h'.ars, h'.nda, h'.a0, h'.ex, h'.p0, h'.h0, h'.new⟩
  · rw [tmS_push, tmV_push]
    exact (s'.push (.ow q.1 q.2.1 ho)).topush
  · obtain rfl := List.mem_singleton.mp hb
    exact (s.own a ha).2.2 (e ▸ hp)
/-- it goes to a slot -/
theorem Holds.takeT {p : Addr} {o : Ob} (h : Holds K (B.push p o) G σ P H) {i : Nat} (hi : i < G.sl.length) : Holds K B { G with sl := G.sl.set i (.ow o) } (σ.set i (some (.ref p))) P H := by
  obtain ⟨M, q, nd⟩ := h.sls
  rw [tmS_push, tmV_push] at q
  obtain ⟨M', m, e, h1, h2⟩ := q.pop
  subst e
  cases h2 with
  | ow a b c =>
    have n := List.nodup_append.mp nd
    obtain ⟨M2, g1, g2, _⟩ := SlsOk.putO (B := B) a b c i h1.unpush n.1 fun z => n.2.2 p z p List.mem_cons_self rfl
    rw [set_app hi, set_app (h.slen ▸ hi)] at g1
    exact ⟨⟨M2, g1, g2⟩, by rw [List.length_set, List.length_set]; exact h.slen, h.ars, h.nda, h.a0, h.ex, h.p0, h.h0, h.new⟩
/-- it becomes plain -/
theorem Holds.plainT {p : Addr} {o : Ob} {u : HO} {d : D} (h : Holds K (B.push p o) G σ P H) (hu : H p = some u) (hd : Rp K (upd P p u) (.ref p) d) : Holds K B G σ (upd P p u) H ∧ Ex P (upd P p u) := by
  obtain ⟨h0, n, n0, c, na⟩ := h.popT
  obtain ⟨M, q, nd⟩ := h.sls
  rw [tmS_push, tmV_push] at q
  obtain ⟨M', m, e, h1, h2⟩ := q.pop
  subst e
  have x : Ex P (upd P p u) := Ex.new n
  cases h2 with
  | ow _ _ _ =>
    have nn := List.nodup_append.mp nd
    have k : ∀ b, b ∈ M' → b ≠ p := fun b hb z => nn.2.2 b hb p List.mem_cons_self z
    refine ⟨⟨⟨M', (h1.step x (fun b hb => by rw [upd_ne (k b hb)]; exact (h1.own b hb).1) fun _ _ => rfl).unpush, nn.1⟩, h.slen, h.ars.step x (fun b hb => ?_) (fun _ _ => rfl), h.nda, h.a0, fun b z q => ?_, h.p0.trans x, h.h0, fun b hb z => ?_⟩, x⟩
    · rw [upd_ne (fun y : b = p => na (by rw [← y]; exact hb))]; exact h.ars.none b hb
    · by_cases y : b = p
      · subst y; rw [upd_same] at q; rw [hu]; exact q
      · rw [upd_ne y] at q; exact h.ex b z q
    · by_cases y : b = p
      · rw [y]; exact n0
      · rw [upd_ne y] at z; exact h.new b hb z
theorem Holds.plainI {p C : Addr} {fs : Fs} (h : Holds K (B.push p (.ins C fs)) G σ P H) : ∃ P', Holds K B G σ P' H ∧ Ex P P' ∧ Rp K P' (.ref p) (.ins C fs) := by
  obtain ⟨_, n, _, o, _⟩ := h.popT
  cases o with
  | @ins C dx us fs hu r =>
    have rd : Rp K (upd P p (.ins C dx us)) (.ref p) (.ins C fs) := .ins upd_same (r.mono (Ex.new n))
    obtain ⟨a, b⟩ := h.plainT hu rd
    exact ⟨_, a, b, rd⟩
end
/-! ### what is wanted of a reading -/
/-- from now on what is plain stays so: a base with a greater plain part, there and back -/
def Bs.at (B : Bs) (P1 : Hp) : Bs := { B with P0 := P1 }
theorem SlsOk.at {K : PySem.W.Frag} {B : Bs} {P1 P H : Hp} {σ : L2.St} {l : List Sl} {M : List Addr} (h : SlsOk K B P H σ l M) : SlsOk K (B.at P1) P H σ l M := SlsOk.base (B := B) (B' := B.at P1) rfl rfl h
theorem SlsOk.unat {K : PySem.W.Frag} {B : Bs} {P1 P H : Hp} {σ : L2.St} {l : List Sl} {M : List Addr} (h : SlsOk K (B.at P1) P H σ l M) : SlsOk K B P H σ l M := SlsOk.base (B := B.at P1) (B' := B) rfl rfl h
theorem Holds.rebase {K : PySem.W.Frag} {B : Bs} {G : Gam} {σ : L2.St} {P H : Hp} (h : Holds K B G σ P H) : Holds K (B.at P) G σ P H := by
  obtain ⟨M, s, nd⟩ := h.sls
  exact ⟨⟨M, s.at, nd⟩, h.slen, h.ars, h.nda, h.a0, h.ex, Ex.rfl, h.h0, fun a x y => absurd x y⟩
theorem Holds.unbase {K : PySem.W.Frag} {B : Bs} {G G' : Gam} {σ σ' : L2.St} {P1 H1 P H : Hp} (h1 : Holds K B G' σ' P1 H1) (h : Holds K (B.at P1) G σ P H) : Holds K B G σ P H := by
  obtain ⟨M, s, nd⟩ := h.sls
  have p0 : Ex P1 P := h.p0
  refine ⟨⟨M, s.unat, nd⟩, h.slen, h.ars, h.nda, h.a0, h.ex, h1.p0.trans p0, h.h0, fun a x y => ?_⟩
  by_cases q : P1 a = none
  · exact h.new a q y
  · exact h1.new a x q
/-- an exception has come: its own dict, if it has one, stands beside -/
def HoldsX (K : PySem.W.Frag) (B : Bs) (G : Gam) (σ : L2.St) (P H : Hp) : Option Addr → Fs → Prop
  | none, fs => fs = [] ∧ Holds K B G σ P H
  | some a, fs => Holds K (B.push a (.xd fs)) G σ P H
theorem HoldsX.unbase {K : PySem.W.Frag} {B : Bs} {G G' : Gam} {σ σ' : L2.St} {P1 H1 P H : Hp} {a : Option Addr} {fs : Fs} (h1 : Holds K B G' σ' P1 H1) (h : HoldsX K (B.at P1) G σ P H a fs) : HoldsX K B G σ P H a fs := by
  cases a with
  | none => exact ⟨h.1, h1.unbase h.2⟩
  | some p =>
    obtain ⟨M, s, nd⟩ := Holds.sls h
    have h' : Holds K ((B.at P1).push p (.xd fs)) G σ P H := h
    have p0 : Ex P1 P := h'.p0
    refine ⟨⟨M, SlsOk.base (B := (B.at P1).push p (.xd fs)) (B' := B.push p (.xd fs)) rfl rfl s, nd⟩, h'.slen, h'.ars, h'.nda, h'.a0, h'.ex, h1.p0.trans p0, h'.h0, fun a x y => ?_⟩
    by_cases q : P1 a = none
    · exact h'.new a q y
    · exact h1.new a x q
theorem SlsOk.src {K : PySem.W.Frag} {B : Bs} {P H : Hp} : ∀ {σ : L2.St} {l : List Sl} {M : List Addr}, SlsOk K B P H σ l M → ∀ p, p ∈ M → ∃ (i : Nat) (o : Ob), l[i]? = some (.ow o) ∧ σ[i]? = some (some (V.ref p))
  | _, _, _, .nil, _, h => by cases h
  | _, _, _, .cons h r, p, hp => by
    rcases List.mem_append.mp hp with z | z
    · cases h with
      | no => cases z
      | pu _ => cases z
      | ar _ => cases z
      | ow _ _ _ => obtain rfl := List.mem_singleton.mp z; exact ⟨0, _, rfl, rfl⟩
    · obtain ⟨i, o, h1, h2⟩ := r.src p z
      exact ⟨i + 1, o, by simpa using h1, by simpa using h2⟩
/-- a thing that did not stand ahead of a call is added beside -/
theorem Holds.addT {K : PySem.W.Frag} {B : Bs} {G G' : Gam} {σ : L2.St} {P P' H H' : Hp} (h : Holds K B G σ P H) (h' : Holds K B G' σ P' H') (so : ∀ (i : Nat) (o : Ob), G'.sl[i]? = some (.ow o) → ∃ o2, G.sl[i]? = some (.ow o2)) {p : Addr} {o : Ob} (n : H p = none) (n' : P' p = none) (ob : ObAt K P' H' p o) (sr : regS G'.ar = regS G.ar := by rfl) (sv : regV G'.ar = regV G.ar := by rfl) : Holds K (B.push p o) G' σ P' H' := by
  obtain ⟨M', s', nd'⟩ := h'.sls
  obtain ⟨M, s, _⟩ := h.sls
  rw [← sr, ← sv] at s
  have q := h.fresh n
  have np : p ∉ M' := fun hp => by
    obtain ⟨i, o1, h1, h2⟩ := s'.src p hp
    have z : ∃ o2, (G.sl ++ (regS G'.ar ++ tmS B.T))[i]? = some (.ow o2) := by
      by_cases hi : i < G'.sl.length
      · obtain ⟨o2, e⟩ := so i o1 (of_app hi h1)
        exact ⟨o2, at_app e⟩
      · have e1 : G'.sl.length = G.sl.length := h'.slen.symm.trans h.slen
        rw [List.getElem?_append_right (by omega)] at h1
        exact ⟨o1, by rw [List.getElem?_append_right (by omega), ← e1]; exact h1⟩
    obtain ⟨o2, z⟩ := z
    obtain ⟨v, m, g1, g2, g3⟩ := s.get z
    rw [h2] at g1
    cases g1
    cases g2 with
    | ow _ _ c => exact c.some n
  refine ⟨⟨M' ++ [p], ?_, List.nodup_append.mpr ⟨nd', List.nodup_cons.mpr ⟨by simp, List.nodup_nil⟩, fun a ha b hb e => ?_⟩⟩, h'.slen, h'.ars, h'.nda, h'.a0, h'.ex, h'.p0, h'.h0, h'.new⟩
  · rw [tmS_push, tmV_push]
    exact (s'.push (.ow n' q.2.1 ob)).topush
  · obtain rfl := List.mem_singleton.mp hb
    exact np (e ▸ ha)
/-! objects with named places are forgotten -/
theorem SlsOk.split {K : PySem.W.Frag} {B : Bs} {P H : Hp} {σ2 : L2.St} {l2 : List Sl} : ∀ {σ1 : L2.St} {l1 : List Sl} {M : List Addr}, SlsOk K B P H (σ1 ++ σ2) (l1 ++ l2) M → σ1.length = l1.length → ∃ M1 M2, M = M1 ++ M2 ∧ SlsOk K B P H σ1 l1 M1 ∧ SlsOk K B P H σ2 l2 M2
  | [], [], M, h, _ => ⟨[], M, rfl, .nil, h⟩
  | [], _ :: _, _, _, e => by simp at e
  | _ :: _, [], _, _, e => by simp at e
  | v :: σ1, s :: l1, _, h, e => by
    cases h with
    | cons a r =>
      obtain ⟨M1, M2, q, h1, h2⟩ := SlsOk.split (σ1 := σ1) (l1 := l1) r (by simpa using e)
      exact ⟨_ ++ M1, M2, by rw [q, List.append_assoc], .cons a h1, h2⟩
theorem SlsOk.join {K : PySem.W.Frag} {B : Bs} {P H : Hp} {σ2 : L2.St} {l2 : List Sl} {M2 : List Addr} (h2 : SlsOk K B P H σ2 l2 M2) : ∀ {σ1 : L2.St} {l1 : List Sl} {M1 : List Addr}, SlsOk K B P H σ1 l1 M1 → SlsOk K B P H (σ1 ++ σ2) (l1 ++ l2) (M1 ++ M2)
  | _, _, _, .nil => h2
  | _, _, _, .cons a r => by
    rw [List.append_assoc]
    exact .cons a (SlsOk.join h2 r)
theorem rg_len : ∀ l : List Ob, (regV l).length = (regS l).length
  | [] => rfl
  | .lst _ :: l => rg_len l
  | .ins _ _ :: l => rg_len l
  | .xd _ :: l => rg_len l
  | .rg _ _ :: l => congrArg (· + 1) (rg_len l)
theorem ArOk.allRg {K : PySem.W.Frag} {P H : Hp} {l : List Ob} (h : ArOk K P H [] l) : ∀ o, o ∈ l → ∃ a u, o = .rg a u := by
  cases h with
  | nil q => exact q
theorem ArOk.cut {K : PySem.W.Frag} {P H : Hp} : ∀ {A : List Addr} {l r : List Ob}, ArOk K P H A (l ++ r) → A.length ≤ l.length → ArOk K P H A l
  | [], _, _, h, _ => .nil fun o ho => h.allRg o (List.mem_append_left _ ho)
  | _ :: _, [], _, _, e => by simp at e
  | a :: A, o :: l, r, h, e => by
    have h' : ArOk K P H (a :: A) (o :: (l ++ r)) := h
    cases h' with
    | cons a b c => exact .cons a b (ArOk.cut c (by simpa using e))
theorem Holds.noR {K : PySem.W.Frag} {B : Bs} {sl : List Sl} {l r : List Ob} {σ : L2.St} {P H : Hp} (h : Holds K B ⟨sl, l ++ r⟩ σ P H) (e : B.A.length ≤ l.length) : Holds K B ⟨sl, l⟩ σ P H := by
  obtain ⟨M, s, nd⟩ := h.sls
  have e1 : regV (l ++ r) = regV l ++ regV r := List.filterMap_append
  have e2 : regS (l ++ r) = regS l ++ regS r := List.filterMap_append
  simp only [e1, e2, List.append_assoc] at s
  obtain ⟨M1, M2, rfl, s1, s2⟩ := s.split h.slen
  obtain ⟨M3, M4, rfl, s3, s4⟩ := s2.split (rg_len l)
  obtain ⟨M5, M6, rfl, s5, s6⟩ := s4.split (rg_len r)
  refine ⟨⟨M1 ++ (M3 ++ M6), SlsOk.join (SlsOk.join s6 s3) s1, ?_⟩, h.slen, h.ars.cut e, h.nda, h.a0, h.ex, h.p0, h.h0, h.new⟩
  have n1 := List.nodup_append.mp nd
  have n2 := List.nodup_append.mp n1.2.1
  have n3 := List.nodup_append.mp n2.2.1
  refine List.nodup_append.mpr ⟨n1.1, List.nodup_append.mpr ⟨n2.1, n3.2.1, fun a ha b hb => n2.2.2 a ha b (List.mem_append_right _ hb)⟩, fun a ha b hb => n1.2.2 a ha b ?_⟩
  rcases List.mem_append.mp hb with z | z
  · exact List.mem_append_left _ z
  · exact List.mem_append_right _ (List.mem_append_right _ z)
abbrev PoE := D → Gam → Prop
abbrev ErE := Addr → Fs → Gam → Prop
section
variable (K : PySem.W.Frag) (B : Bs) (W : WX)
def Wp (te : TE) (G : Gam) (Po : PoE) (Er : ErE) : Prop := ∀ σ P H Q, Holds K B G σ P H → (∀ d G' v P' H', Po d G' → Holds K B G' σ P' H' → Ex P P' → Rp K P' v d → Q v H') →
  (∀ C fs G' a P' H', Er C fs G' → HoldsX K B G' σ P' H' a fs → W (.ref C) a σ H') → te σ H Q
def Wt (tt : TT) (G : Gam) (Po : Bool → Gam → Prop) (Er : ErE) : Prop := ∀ σ P H Q, Holds K B G σ P H → (∀ b G' P' H', Po b G' → Holds K B G' σ P' H' → Ex P P' → Q b H') →
  (∀ C fs G' a P' H', Er C fs G' → HoldsX K B G' σ P' H' a fs → W (.ref C) a σ H') → tt σ H Q
/-- an argument: plain data, the object of a slot, an object that was handed in -/
inductive AV where
  | pu (d : D) | hs (i : Nat) | ha (k : Nat)
inductive AvOk (K : PySem.W.Frag) (B : Bs) (σ : L2.St) (P : Hp) : V → AV → Prop
  | pu {v : V} {d : D} : Rp K P v d → AvOk K B σ P v (.pu d)
  | hs {v : V} {i : Nat} : σ[i]? = some (some v) → AvOk K B σ P v (.hs i)
  | ha {p : Addr} {k : Nat} : B.A[k]? = some p → AvOk K B σ P (.ref p) (.ha k)
inductive AvsOk (K : PySem.W.Frag) (B : Bs) (σ : L2.St) (P : Hp) : List V → List AV → Prop
  | nil : AvsOk K B σ P [] []
  | cons {v : V} {a : AV} {vs : List V} {as : List AV} : AvOk K B σ P v a → AvsOk K B σ P vs as → AvsOk K B σ P (v :: vs) (a :: as)
def Wa (ta : TA) (G : Gam) (Po : List AV → Gam → Prop) (Er : ErE) : Prop := ∀ σ P H Q, Holds K B G σ P H → (∀ as G' vs P' H', Po as G' → Holds K B G' σ P' H' → Ex P P' → AvsOk K B σ P' vs as → Q vs H') →
  (∀ C fs G' a P' H', Er C fs G' → HoldsX K B G' σ P' H' a fs → W (.ref C) a σ H') → ta σ H Q
structure En where
  nx : Gam → Prop
  rt : PoE
  bk : Gam → Prop := fun _ => False
  ct : Gam → Prop := fun _ => False
  er : ErE
def Ws (ts : TS) (G : Gam) (N : En) : Prop := ∀ σ P H (D : Ends), Holds K B G σ P H → (∀ G' σ' P' H', N.nx G' → Holds K B G' σ' P' H' → D.nx σ' H') → (∀ d G' v σ' P' H', N.rt d G' → Holds K B G' σ' P' H' → Rp K P' v d → D.rt v H') →
  (∀ G' σ' P' H', N.bk G' → Holds K B G' σ' P' H' → D.bk σ' H') → (∀ G' σ' P' H', N.ct G' → Holds K B G' σ' P' H' → D.ct σ' H') →
  (∀ C fs G' a σ' P' H', N.er C fs G' → HoldsX K B G' σ' P' H' a fs → W (.ref C) a σ' H') → ts D σ H
end
end TV
/-! The code: a family of contexts that run the same text, and what is wanted of a piece of text there. -/
namespace TV
open PySem PySem.Spec PyProof.Rows L2
/-- what a context must be. nm: its names, which of them may be read here, which may be stored; gl: global names; cm: no exception is being handled; top: a def's own body -/
abbrev Nms := List (Str × Bool × Bool)
structure CxIs (P : Program) (w : World) (K : PySem.W.Frag) (mg : Str → Option Value) (base : Heap) (sc : Scope) (nm : Nms) (gl : List Str) (W : WX) (lv : Nat) (cm top : Bool) (X : Cx) : Prop where
  eP : X.prog = P
  ew : X.w = w
  eK : X.K = K
  emg : X.mg = mg
  eb : X.base = base
  esc : X.env.scope = sc
  eN : X.N = nm.map (·.1)
  vis : ∀ (i : Nat) (x : Str) (l : Bool), nm[i]? = some (x, true, l) → Vis X.env.scope x
  loc : ∀ (i : Nat) (x : Str) (v : Bool), nm[i]? = some (x, v, true) → Loc X.env.scope x ∧ (X.fn x = true ∨ X.env.scope.names.lookup x = some .local)
  db : ∀ (i : Nat) (e : Str × Bool × Bool), nm[i]? = some e → (e.1 == ("__debug__" : Str)) = false ∧ (e.1 == ("__classdict__" : Str)) = false
  nd : (nm.map (·.1)).Nodup
  glo : ∀ x, x ∈ gl → Gl X x
  tk : Takes X W
  calm : X.calm = cm
  room : cm = true → Room lv X.A
  un : X.A.units + 200 < cLine
  po : cm = true → PassesOwn (model P w) X.A X.env X.xe
  fr : top = true → X.stack = X.env :: X.outer ∧ X.env.frame = some X.env.locals
structure Fm where
  J : Type
  X : J → Cx
  P : Program
  w : World
  K : PySem.W.Frag
  mg : Str → Option Value
  base : Heap
  sc : Scope
  nm : Nms
  gl : List Str
  W : WX
  lv : Nat
  cm : Bool
  top : Bool
  ok : ∀ c, CxIs P w K mg base sc nm gl W lv cm top (X c)

section
variable {J : Type} (X : J → Cx)
def eR (e : Expr) : TE := fun σ H Q => ∀ c pins s, Inv (X c) pins σ H s → wpAny (model (X c).prog (X c).w) (X c).A (eval e (X c).env) (EP (X c) pins σ Q) (X c).xe s
def tR (e : Expr) : TT := fun σ H Q => ∀ c pins s, Inv (X c) pins σ H s → wpAny (model (X c).prog (X c).w) (X c).A (isTrue e (X c).env (eval e (X c).env)) (TP (X c) pins σ Q) (X c).xe s
def wR (e : Expr) : TT := fun σ H Q => ∀ c whole pins s, Inv (X c) pins σ H s → wpAny (model (X c).prog (X c).w) (X c).A (isTrue e (X c).env whole) (TP (X c) pins σ Q) (X c).xe s
def aR (es : List Expr) : TA := fun σ H Q => ∀ c pos pins s, Inv (X c) pins σ H s → wpAny (model (X c).prog (X c).w) (X c).A (spliced (backTo pos (starEach es (X c).env))) (AP (X c) pins σ Q) (X c).xe s
def sR (st : Stmt) : TS := fun D σ H => ∀ c pins s, Inv (X c) pins σ H s → wpAny (model (X c).prog (X c).w) (X c).A (exec st (X c).env) (SP (X c) pins D) (X c).xe s
def ssR (st : List Stmt) : TS := fun D σ H => ∀ c pins s, Inv (X c) pins σ H s → wpAny (model (X c).prog (X c).w) (X c).A (execs st (X c).env) (SP (X c) pins D) (X c).xe s
def gR (tg : Expr) : TG := fun v σ H Q => ∀ c pins s u, Inv (X c) pins σ H s → RelV v u → wpAny (model (X c).prog (X c).w) (X c).A (assign tg (X c).env u) (fun _ s' => ∃ σ' H', Inv (X c) pins σ' H' s' ∧ Q σ' H') (X c).xe s
def opR (f : Value → Value → Sem Value) : R2 := fun x y H Q => ∀ c pins s σ v u, Inv (X c) pins σ H s → RelV x v → RelV y u → wpAny (model (X c).prog (X c).w) (X c).A (f v u) (EP (X c) pins σ Q) (X c).xe s
def unR (f : Value → Sem Value) : V → Hp → VK → Prop := fun x H Q => ∀ c pins s σ v, Inv (X c) pins σ H s → RelV x v → wpAny (model (X c).prog (X c).w) (X c).A (f v) (EP (X c) pins σ Q) (X c).xe s
def cbR (f : Value) : List V → Hp → VK → Prop := fun xs H Q => ∀ c pins s σ us, Inv (X c) pins σ H s → Vals xs us → wpAny (model (X c).prog (X c).w) (X c).A (call f us) (EP (X c) pins σ Q) (X c).xe s
def ixR : R2 := fun x y H Q => ∀ c (value slice : Expr) pins s σ v u, Inv (X c) pins σ H s → RelV x v → RelV y u → subscripted slice false v u = operate [v, u] (getItem v u) → wpAny (model (X c).prog (X c).w) (X c).A (subscriptTail value slice v u) (EP (X c) pins σ Q) (X c).xe s
def iR (tg iter : Expr) : TI := fun σ H R => ∀ c pins s, Inv (X c) pins σ H s → wpAny (model (X c).prog (X c).w) (X c).A (eval iter (X c).env) (fun v s1 => wpAny (model (X c).prog (X c).w) (X c).A (pyIter v) (PIE (X c) pins σ tg R) (X c).xe s1) (X c).xe s
variable {X}
theorem eR_pe {e : Expr} (c : J) : PE (X c) e (eR X e) := ⟨fun pins s σ H Q I h => h c pins s I⟩
theorem tR_pt {e : Expr} (c : J) : PT (X c) e (tR X e) := ⟨fun pins s σ H Q I h => h c pins s I⟩
theorem wR_pw {e : Expr} (c : J) : PW (X c) e (wR X e) := ⟨fun whole pins s σ H Q I h => h c whole pins s I⟩
theorem aR_pa {es : List Expr} (c : J) : PA (X c) es (aR X es) := ⟨fun pos pins s σ H Q I h => h c pos pins s I⟩
theorem sR_ps {st : Stmt} (c : J) : PS (X c) st (sR X st) := ⟨fun pins s σ H D I h => h c pins s I⟩
theorem ssR_pss {st : List Stmt} (c : J) : PSs (X c) st (ssR X st) := ⟨fun pins s σ H D I h => h c pins s I⟩
theorem iR_pi {tg iter : Expr} (c : J) : PI (X c) tg iter (iR X tg iter) := ⟨fun pins s σ H R I h => h c pins s I⟩
theorem opR_ok {f : Value → Value → Sem Value} (c : J) : OpR (X c) f (opR X f) := fun pins s σ H x y v u Q I r1 r2 h => h c pins s σ v u I r1 r2
theorem unR_ok {f : Value → Sem Value} (c : J) : UnR (X c) f (unR X f) := fun pins s σ H x v Q I r h => h c pins s σ v I r
theorem cbR_ok {f : Value} (c : J) : CallR (X c) f (cbR X f) := fun pins s σ H xs us Q I r h => h c pins s σ us I r
theorem ixR_ok (c : J) : IxR (X c) (ixR X) := fun value slice pins s σ H x y v u Q I r1 r2 h hs => h c value slice pins s σ v u I r1 r2 hs
theorem of_pe {e : Expr} {t : TE} (h : ∀ c, PE (X c) e t) {σ : L2.St} {H : Hp} {Q : VK} (q : t σ H Q) : eR X e σ H Q := fun c pins s I => (h c).run pins s σ H Q I q
theorem of_pt {e : Expr} {t : TT} (h : ∀ c, PT (X c) e t) {σ : L2.St} {H : Hp} {Q : Bool → Hp → Prop} (q : t σ H Q) : tR X e σ H Q := fun c pins s I => (h c).run pins s σ H Q I q
theorem of_pw {e : Expr} {t : TT} (h : ∀ c, PW (X c) e t) {σ : L2.St} {H : Hp} {Q : Bool → Hp → Prop} (q : t σ H Q) : wR X e σ H Q := fun c whole pins s I => (h c).run whole pins s σ H Q I q
theorem of_pa {es : List Expr} {t : TA} (h : ∀ c, PA (X c) es t) {σ : L2.St} {H : Hp} {Q : List V → Hp → Prop} (q : t σ H Q) : aR X es σ H Q := fun c pos pins s I => (h c).run pos pins s σ H Q I q
theorem of_ps {st : Stmt} {t : TS} (h : ∀ c, PS (X c) st t) {σ : L2.St} {H : Hp} {D : Ends} (q : t D σ H) : sR X st D σ H := fun c pins s I => (h c).run pins s σ H D I q
theorem of_pss {st : List Stmt} {t : TS} (h : ∀ c, PSs (X c) st t) {σ : L2.St} {H : Hp} {D : Ends} (q : t D σ H) : ssR X st D σ H := fun c pins s I => (h c).run pins s σ H D I q
theorem of_pi {tg iter : Expr} {t : TI} (h : ∀ c, PI (X c) tg iter t) {σ : L2.St} {H : Hp} {R : It → Hp → Prop} (q : t σ H R) : iR X tg iter σ H R := fun c pins s I => (h c).run pins s σ H R I q
theorem of_op {f : Value → Value → Sem Value} {r : R2} (h : ∀ c, OpR (X c) f r) {x y : V} {H : Hp} {Q : VK} (q : r x y H Q) : opR X f x y H Q := fun c pins s σ v u I r1 r2 => h c pins s σ H x y v u Q I r1 r2 q
theorem of_un {f : Value → Sem Value} {r : V → Hp → VK → Prop} (h : ∀ c, UnR (X c) f r) {x : V} {H : Hp} {Q : VK} (q : r x H Q) : unR X f x H Q := fun c pins s σ v I r1 => h c pins s σ H x v Q I r1 q
theorem of_cb {f : Value} {r : List V → Hp → VK → Prop} (h : ∀ c, CallR (X c) f r) {xs : List V} {H : Hp} {Q : VK} (q : r xs H Q) : cbR X f xs H Q := fun c pins s σ us I r1 => h c pins s σ H xs us Q I r1 q
theorem of_ix {r : R2} (h : ∀ c, IxR (X c) r) {x y : V} {H : Hp} {Q : VK} (q : r x y H Q) : ixR X x y H Q := fun c value slice pins s σ v u I r1 r2 hs => h c value slice pins s σ H x y v u Q I r1 r2 q hs
end

/-! ### what is wanted of a text -/
variable (F : Fm) (B : Bs)
def WE (e : Expr) (G : Gam) (Po : PoE) (Er : ErE) : Prop := Wp F.K B F.W (eR F.X e) G Po Er
def WT (e : Expr) (G : Gam) (Po : Bool → Gam → Prop) (Er : ErE) : Prop := Wt F.K B F.W (tR F.X e) G Po Er
def WW (e : Expr) (G : Gam) (Po : Bool → Gam → Prop) (Er : ErE) : Prop := Wt F.K B F.W (wR F.X e) G Po Er
def WA (es : List Expr) (G : Gam) (Po : List AV → Gam → Prop) (Er : ErE) : Prop := Wa F.K B F.W (aR F.X es) G Po Er
def WS (st : Stmt) (G : Gam) (N : En) : Prop := Ws F.K B F.W (sR F.X st) G N
def WSs (st : List Stmt) (G : Gam) (N : En) : Prop := Ws F.K B F.W (ssR F.X st) G N
/-- a two-place operation on data -/
def Op (f : Value → Value → Sem Value) (d1 d2 : D) (G : Gam) (Po : PoE) : Prop := ∀ σ P H x y Q, Holds F.K B G σ P H → Rp F.K P x d1 → Rp F.K P y d2 → (∀ d G' v P' H', Po d G' → Holds F.K B G' σ P' H' → Ex P P' → Rp F.K P' v d → Q v H') → opR F.X f x y H Q
def Un1 (f : Value → Sem Value) (d1 : D) (G : Gam) (Po : PoE) : Prop := ∀ σ P H x Q, Holds F.K B G σ P H → Rp F.K P x d1 → (∀ d G' v P' H', Po d G' → Holds F.K B G' σ P' H' → Ex P P' → Rp F.K P' v d → Q v H') → unR F.X f x H Q
def Cb (f : Value) (as : List AV) (G : Gam) (Po : PoE) (Er : ErE) : Prop := ∀ σ P H xs Q, Holds F.K B G σ P H → AvsOk F.K B σ P xs as → (∀ d G' v P' H', Po d G' → Holds F.K B G' σ P' H' → Ex P P' → Rp F.K P' v d → Q v H') → cbR F.X f xs H Q
def Ix (d1 d2 : D) (G : Gam) (Po : PoE) : Prop := ∀ σ P H x y Q, Holds F.K B G σ P H → Rp F.K P x d1 → Rp F.K P y d2 → (∀ d G' v P' H', Po d G' → Holds F.K B G' σ P' H' → Ex P P' → Rp F.K P' v d → Q v H') → ixR F.X x y H Q
end TV
/-! Calls: promises over plain data. -/
namespace TV
open PySem PySem.Spec PyProof.Rows L2
inductive Arg where
  | pu (d : D) | ar (o : Ob)
abbrev PT := List Arg → (D → List Ob → Prop) → (Addr → Fs → List Ob → Prop) → Prop
inductive ArgsOk (K : PySem.W.Frag) (P H : Hp) : List V → List Arg → List Addr → Prop
  | nil : ArgsOk K P H [] [] []
  | pu {v : V} {d : D} {vs : List V} {as : List Arg} {A : List Addr} : Rp K P v d → ArgsOk K P H vs as A → ArgsOk K P H (v :: vs) (.pu d :: as) A
  | ar {p : Addr} {o : Ob} {vs : List V} {as : List Arg} {A : List Addr} : P p = none → ObAt K P H p o → ArgsOk K P H vs as A → ArgsOk K P H (.ref p :: vs) (.ar o :: as) (p :: A)
theorem ArgsOk.length {K : PySem.W.Frag} {P H : Hp} : ∀ {vs : List V} {as : List Arg} {A : List Addr}, ArgsOk K P H vs as A → vs.length = as.length
  | _, _, _, .nil => rfl
  | _, _, _, .pu _ r => congrArg (· + 1) r.length
  | _, _, _, .ar _ _ r => congrArg (· + 1) r.length
def spOf (K : PySem.W.Frag) (T : PT) (n : Nat) : Sp := fun vs H Q E => ∃ args A P Po Er, vs.length = n ∧ ArgsOk K P H vs args A ∧ A.Nodup ∧ Ex P H ∧ T args Po Er ∧
  (∀ d obs v P' H' sl σ, Po d obs → Holds K ⟨A, P, H, []⟩ ⟨sl, obs⟩ σ P' H' → Rp K P' v d → Q v H') ∧
  (∀ C fs obs a P' H' sl σ, Er C fs obs → HoldsX K ⟨A, P, H, []⟩ ⟨sl, obs⟩ σ P' H' a fs → E (.ref C) a H')
structure Def1 (P : Program) (w : World) (K : PySem.W.Frag) (mg : Str → Option Value) (base : Heap) (lv : Nat) (x : Str) (n : Nat) (T : PT) : Prop where
  ex : ∃ f fd ps, mg x = some (.ref f) ∧ PySem.W.keepIn K (.ref f) = true ∧ Binds K fd ps [] ∧ ps.length = n ∧ FnOk P w K mg base (L2.CX P w) lv f fd ps (spOf K T n)
  nodb : (x == ("__debug__" : Str)) = false

section
variable {K : PySem.W.Frag} {B : Bs} {G G' : Gam} {σ σ' : L2.St} {P P' H H' : Hp}
theorem Holds.call0 (h : Holds K B G σ P H) (h' : Holds K ⟨[], P, H, []⟩ G' σ' P' H') : Holds K B G σ P' H' ∧ Ex P P' :=
  ⟨h.grow h'.p0 h'.ex (fun b o q => h'.h0 b o (by intro z; cases z) q) h'.new, h'.p0⟩
theorem HoldsX.call0 (h : Holds K B G σ P H) {a : Option Addr} {fs : Fs} (h' : HoldsX K ⟨[], P, H, []⟩ G' σ' P' H' a fs) : HoldsX K B G σ P' H' a fs := by
  cases a with
  | none => exact ⟨h'.1, (h.call0 h'.2).1⟩
  | some p =>
    obtain ⟨h1, n1, n0, ob, _⟩ := Holds.popT h'
    exact h.addT (h.call0 h1).1 (fun i o e => ⟨o, e⟩) n0 n1 ob
theorem still_none {A : List Addr} (h' : Holds K ⟨A, P, H, []⟩ G' σ' P' H') {p : Addr} (hp : H p ≠ none) (hn : P p = none) : P' p = none := by
  cases q : P' p with
  | none => rfl
  | some o => exact absurd (h'.new p hn (by rw [q]; exact fun z => nomatch z)) hp
theorem still_same {A : List Addr} (h' : Holds K ⟨A, P, H, []⟩ G' σ' P' H') {p : Addr} (hp : H p ≠ none) (hn : p ∉ A) : H' p = H p := by
  cases q : H p with
  | none => exact absurd q hp
  | some o => exact h'.h0 p o hn q
theorem ArOk.put2 : ∀ {A : List Addr} {l : List Ob} {i : Nat} {p : Addr} {o : Ob}, ArOk K P H A l → A.Nodup → A[i]? = some p → Ex P P' → (∀ b, b ∈ A → P' b = .none) → (∀ b, b ∈ A → b ≠ p → H' b = H b) → ObAt K P' H' p o → ArOk K P' H' A (l.set i o)
  | _, _, _, _, _, .nil _, _, h, _, _, _, _ => by simp at h
  | _, _, 0, p, _, .cons h o r, nd, e, x, n, k, o' => by
    simp at e; subst e
    have nd' := List.nodup_cons.mp nd
    exact .cons (n _ List.mem_cons_self) o' (r.step x (fun b hb => n b (List.mem_cons_of_mem _ hb)) fun b hb => k b (List.mem_cons_of_mem _ hb) fun z => nd'.1 (z ▸ hb))
  | _, _, i + 1, p, _, .cons h o r, nd, e, x, n, k, o' => by
    have nd' := List.nodup_cons.mp nd
    have e' := e
    rw [List.getElem?_cons_succ] at e'
    refine .cons (n _ List.mem_cons_self) (o.step x (k _ List.mem_cons_self fun z => nd'.1 ?_)) (r.put2 (i := i) nd'.2 e' x (fun b hb => n b (List.mem_cons_of_mem _ hb)) (fun b hb => k b (List.mem_cons_of_mem _ hb)) o')
    rw [z]; exact List.mem_of_getElem? e'
theorem SlsOk.chg2 {p : Addr} {o o' : Ob} (x : Ex P P') (ho : ObAt K P' H' p o') : ∀ {σ : L2.St} {l : List Sl} {M : List Addr} (i : Nat), SlsOk K B P H σ l M → M.Nodup → l[i]? = some (.ow o) → σ[i]? = some (some (.ref p)) →
    (∀ b, b ∈ M → P' b = none) → (∀ b, b ∈ M → b ≠ p → H' b = H b) → SlsOk K B P' H' σ (l.set i (.ow o')) M
  | _, _, _, _, .nil, _, h, _, _, _ => by simp at h
  | _, _, _, 0, .cons (m := m) (M := M) h r, nd, e, e', n, k => by
    simp at e e'; subst e; subst e'
    cases h with
    | ow a b c =>
      have q := List.nodup_append.mp nd
      exact .cons (.ow (n _ List.mem_cons_self) b ho) (r.step x (fun b hb => n b (List.mem_append_right _ hb)) fun b hb => k b (List.mem_append_right _ hb) fun z => q.2.2 p List.mem_cons_self b hb z.symm)
  | _, _, _, i + 1, .cons (m := m) (M := M) h r, nd, e, e', n, k => by
    have q := List.nodup_append.mp nd
    rw [List.getElem?_cons_succ] at e e'
    obtain ⟨v, m', h1, h2, h3⟩ := r.get e
    rw [e'] at h1; cases h1
    have pm : p ∈ M := by
      cases h2 with
      | ow _ _ _ => exact h3 p List.mem_cons_self
    exact .cons (h.step x (fun b hb => n b (List.mem_append_left _ hb)) fun b hb => k b (List.mem_append_left _ hb) fun z => q.2.2 b hb p pm z)
      (r.chg2 x ho i q.2.1 e e' (fun b hb => n b (List.mem_append_right _ hb)) fun b hb => k b (List.mem_append_right _ hb))
theorem Holds.callA (h : Holds K B G σ P H) {k : Nat} {p : Addr} {o o' : Ob} (eA : B.A[k]? = some p) (eo : G.ar[k]? = some o) {sl : List Sl} (h' : Holds K ⟨[p], P, H, []⟩ ⟨sl, [o']⟩ σ' P' H') :
    Holds K B { G with ar := G.ar.set k o' } σ P' H' ∧ Ex P P' := by
  have ha : p ∈ B.A := List.mem_of_getElem? eA
  have ob : ObAt K P' H' p o' := by
    cases h'.ars with
    | cons _ o _ => exact o
  obtain ⟨M, s, nd⟩ := h.sls
  rw [← regS_set eo (h.ars.get eA eo).2 ob, ← regV_set eo (h.ars.get eA eo).2 ob] at s
  have np : ∀ b, b ≠ p → b ∉ [p] := fun b hb z => hb (List.mem_singleton.mp z)
  have mp : ∀ b ∈ M, b ≠ p := fun b hb z => h.a0 p ha (z ▸ (s.own b hb).2.1)
  refine ⟨⟨⟨M, s.step h'.p0 (fun b hb => still_none h' (s.own b hb).2.2 (s.own b hb).1) (fun b hb => still_same h' (s.own b hb).2.2 (np b (mp b hb))), nd⟩, h.slen, ?_, h.nda, h.a0, h'.ex, h.p0.trans h'.p0, fun b z hb q => ?_, fun a x y => ?_⟩, h'.p0⟩
  · exact h.ars.put2 h.nda eA h'.p0 (fun b hb => still_none h' (h.ara b hb) (h.ars.none b hb)) (fun b hb hn => still_same h' (h.ara b hb) (np b hn)) ob
  · exact h'.h0 b z (np b fun y => hb (by rw [y]; exact ha)) (h.h0 b z hb q)
  · by_cases q : P a = none
    · exact (h.fresh (h'.new a q y)).2.1
    · exact h.new a x q
theorem Holds.callS (h : Holds K B G σ P H) {i : Nat} {p : Addr} {o o' : Ob} (e : G.sl[i]? = some (.ow o)) (es : σ[i]? = some (some (.ref p))) {sl : List Sl} (h' : Holds K ⟨[p], P, H, []⟩ ⟨sl, [o']⟩ σ' P' H') :
    Holds K B { G with sl := G.sl.set i (.ow o') } σ P' H' ∧ Ex P P' := by
  obtain ⟨q, hq, n, n0, _⟩ := h.getO e
  rw [es] at hq; cases hq
  have ob : ObAt K P' H' p o' := by
    cases h'.ars with
    | cons _ o _ => exact o
  obtain ⟨M, s, nd⟩ := h.sls
  have na : p ∉ B.A := fun z => h.a0 p z n0
  have np : ∀ b, b ≠ p → b ∉ [p] := fun b hb z => hb (List.mem_singleton.mp z)
  have sc := s.chg2 h'.p0 ob i nd (at_app e) (at_app es) (fun b hb => still_none h' (s.own b hb).2.2 (s.own b hb).1) (fun b hb hn => still_same h' (s.own b hb).2.2 (np b hn))
  rw [set_app (lt_of_at e)] at sc
  refine ⟨⟨⟨M, sc, nd⟩, by rw [List.length_set]; exact h.slen, ?_, h.nda, h.a0, h'.ex, h.p0.trans h'.p0, fun b z hb q => ?_, fun a x y => ?_⟩, h'.p0⟩
  · exact h.ars.step h'.p0 (fun b hb => still_none h' (h.ara b hb) (h.ars.none b hb)) fun b hb => still_same h' (h.ara b hb) (np b fun z => na (z ▸ hb))
  · exact h'.h0 b z (np b (ne_of_none q n0)) (h.h0 b z hb q)
  · by_cases q : P a = none
    · exact (h.fresh (h'.new a q y)).2.1
    · exact h.new a x q
end

/-- the promise's arguments: none of them may be changed -/
inductive Args0 : List AV → List Arg → Prop
  | nil : Args0 [] []
  | pu {d : D} {as : List AV} {bs : List Arg} : Args0 as bs → Args0 (.pu d :: as) (.pu d :: bs)
/-- just one may be changed -/
inductive Args1 (G : Gam) : List AV → List Arg → AV → Prop
  | hs {i : Nat} {o : Ob} {as : List AV} {bs : List Arg} : G.sl[i]? = some (.ow o) → Args0 as bs → Args1 G (.hs i :: as) (.ar o :: bs) (.hs i)
  | ha {k : Nat} {o : Ob} {as : List AV} {bs : List Arg} : G.ar[k]? = some o → Args0 as bs → Args1 G (.ha k :: as) (.ar o :: bs) (.ha k)
  | pu {d : D} {as : List AV} {bs : List Arg} {h : AV} : Args1 G as bs h → Args1 G (.pu d :: as) (.pu d :: bs) h
theorem Args1.slot {G : Gam} {j : Nat} : ∀ {as : List AV} {bs : List Arg} {h : AV}, Args1 G as bs h → h = .hs j → ∃ o, G.sl[j]? = some (.ow o)
  | _, _, _, .hs e _, q => by cases q; exact ⟨_, e⟩
  | _, _, _, .ha _ _, q => by cases q
  | _, _, _, .pu a, q => a.slot q
def putH (G : Gam) : AV → Ob → Gam
  | .hs i, o => { G with sl := G.sl.set i (.ow o) }
  | .ha k, o => { G with ar := G.ar.set k o }
  | .pu _, _ => G
section
variable {K : PySem.W.Frag} {B : Bs} {G : Gam} {σ : L2.St} {P H : Hp}
theorem Args0.ok : ∀ {vs : List V} {as : List AV} {bs : List Arg}, Args0 as bs → AvsOk K B σ P vs as → ArgsOk K P H vs bs []
  | _, _, _, .nil, .nil => .nil
  | _, _, _, .pu a, .cons (.pu r) h => .pu r (a.ok h)
/-- what comes back from a call that may change one thing -/
theorem Args1.ok (hh : Holds K B G σ P H) : ∀ {vs : List V} {as : List AV} {bs : List Arg} {h : AV}, Args1 G as bs h → AvsOk K B σ P vs as →
    ∃ p, ArgsOk K P H vs bs [p] ∧ ∀ o' sl σ' P' H', Holds K ⟨[p], P, H, []⟩ ⟨sl, [o']⟩ σ' P' H' → (Holds K B (putH G h o') σ P' H' ∧ Ex P P') ∧ regS (putH G h o').ar = regS G.ar ∧ regV (putH G h o').ar = regV G.ar
  | _, _, _, _, .hs e a, .cons (.hs es) r => by
    obtain ⟨p, hp, n, _, o⟩ := hh.getO e
    rw [es] at hp; cases hp
    exact ⟨p, .ar n o (a.ok r), fun o' sl σ' P' H' h' => ⟨hh.callS e es h', rfl, rfl⟩⟩
  | _, _, _, _, .ha e a, .cons (.ha (p := p) eA) r => by
    obtain ⟨n, o⟩ := hh.ars.get eA e
    refine ⟨p, .ar n o (a.ok r), fun o' sl σ' P' H' h' => ⟨hh.callA eA e h', ?_⟩⟩
    have ob : ObAt K P' H' p o' := by
      cases h'.ars with
      | cons _ o _ => exact o
    exact ⟨regS_set e o ob, regV_set e o ob⟩
  | _, _, _, _, .pu a, .cons (.pu r) h => by
    obtain ⟨p, q, k⟩ := Args1.ok hh a h
    exact ⟨p, .pu r q, k⟩
end
section
variable {F : Fm} {B : Bs} {G : Gam} {x : Str} {n k : Nat} {T : PT} {e : Expr} {es : List Expr} {p pos : Pos} {Po : PoE} {Er : ErE}
theorem fn_here (D1 : Def1 F.P F.w F.K F.mg F.base k x n T) (hk : k ≤ F.lv) (hc : F.cm = true) (hg : x ∈ F.gl)
    (he : ∀ env, starEach (e :: es) env = (false, eval e env) :: starEach es env) (hpl : ∀ env, (backTo pos (starEach es env)).any (·.1) = false) :
    ∀ c, PE (F.X c) (.Call (.Name x p) (e :: es) [] pos) (tCallS (spOf F.K T n) (L2.WE F.W) (aR F.X (e :: es))) := fun c => by
  obtain ⟨f, fd, ps, hm, kp, hb, hl, ok⟩ := D1.ex
  have C := F.ok c
  have ok' : FnOk (F.X c).prog (F.X c).w (F.X c).K (F.X c).mg (F.X c).base (L2.CX (F.X c).prog (F.X c).w) k f fd ps (spOf F.K T n) := by
    rw [C.eP, C.ew, C.eK, C.emg, C.eb]; exact ok
  exact pe_callS ok' ((C.room hc).mono hk) (C.glo x hg) (by rw [C.emg]; exact hm) (by rw [C.eK]; exact kp) (by rw [C.eK]; exact hb) (fun σ => passAt C.tk σ) (aR_pa c) D1.nodb (he _) (hpl _)
/-- f(e, ..) of a def that changes none of its arguments -/
theorem we_call (D1 : Def1 F.P F.w F.K F.mg F.base k x n T) (hk : k ≤ F.lv) (hc : F.cm = true) (hg : x ∈ F.gl)
    (he : ∀ env, starEach (e :: es) env = (false, eval e env) :: starEach es env) (hpl : ∀ env, (backTo pos (starEach es env)).any (·.1) = false)
    (h : WA F B (e :: es) G (fun as G1 => ∃ bs, Args0 as bs ∧ bs.length = n ∧ T bs (fun d _ => Po d G1) (fun C fs _ => Er C fs G1)) Er) : WE F B (.Call (.Name x p) (e :: es) [] pos) G Po Er := by
  intro σ P H Q hh hq hr
  refine of_pe (fn_here D1 hk hc hg he hpl) ?_
  refine h σ P H _ hh (fun as G1 vs P1 H1 w1 h1 x1 av => ?_) hr
  obtain ⟨bs, a0, hl, t⟩ := w1
  have ao : ArgsOk F.K P1 H1 vs bs [] := a0.ok av
  have ln : vs.length = n := ao.length.trans hl
  refine ⟨bs, [], P1, _, _, ln, ao, List.nodup_nil, h1.ex, t, fun d obs v P' H' sl σ' po h' rv => ?_, fun C fs obs a P' H' sl σ' er h' => ?_⟩
  · obtain ⟨a, b⟩ := h1.call0 h'
    exact hq d G1 v P' H' po a (x1.trans b) rv
  · exact hr C fs G1 a P' H' er (HoldsX.call0 h1 h')
/-- f(e, ..) of a def that changes one of its arguments -/
theorem we_call1 (D1 : Def1 F.P F.w F.K F.mg F.base k x n T) (hk : k ≤ F.lv) (hc : F.cm = true) (hg : x ∈ F.gl)
    (he : ∀ env, starEach (e :: es) env = (false, eval e env) :: starEach es env) (hpl : ∀ env, (backTo pos (starEach es env)).any (·.1) = false)
    (h : WA F B (e :: es) G (fun as G1 => ∃ bs hd, Args1 G1 as bs hd ∧ bs.length = n ∧ T bs (fun d obs => ∃ o, obs = [o] ∧ Po d (putH G1 hd o)) (fun C fs obs => ∃ o, obs = [o] ∧ Er C fs (putH G1 hd o))) Er) : WE F B (.Call (.Name x p) (e :: es) [] pos) G Po Er := by
  intro σ P H Q hh hq hr
  refine of_pe (fn_here D1 hk hc hg he hpl) ?_
  refine h σ P H _ hh (fun as G1 vs P1 H1 w1 h1 x1 av => ?_) hr
  obtain ⟨bs, hd, a1, hl, t⟩ := w1
  obtain ⟨p, ao, back⟩ := Args1.ok h1 a1 av
  refine ⟨bs, [p], P1, _, _, ao.length.trans hl, ao, List.nodup_cons.mpr ⟨by simp, List.nodup_nil⟩, h1.ex, t, fun d obs v P' H' sl σ' po h' rv => ?_, fun C fs obs a P' H' sl σ' er h' => ?_⟩
  · obtain ⟨o', rfl, po⟩ := po
    obtain ⟨⟨a, b⟩, _⟩ := back o' sl σ' P' H' h'
    exact hq d _ v P' H' po a (x1.trans b) rv
  · obtain ⟨o', rfl, er⟩ := er
    cases a with
    | none =>
      obtain ⟨ef, h2⟩ := h'
      exact hr C fs _ none P' H' er ⟨ef, (back o' sl σ' P' H' h2).1.1⟩
    | some q =>
      obtain ⟨h2, n1, n0, ob, _⟩ := Holds.popT h'
      have h3 := (back o' sl σ' P' H' h2).1.1
      have sr := (back o' sl σ' P' H' h2).2
      refine hr C fs _ (some q) P' H' er (h1.addT h3 (fun i o e => ?_) n0 n1 ob sr.1 sr.2)
      cases hd with
      | pu d => exact ⟨o, e⟩
      | ha k => exact ⟨o, e⟩
      | hs j =>
        have e' : (G1.sl.set j (.ow o'))[i]? = some (.ow o) := e
        by_cases z : j = i
        · subst z
          exact a1.slot rfl
        · rw [List.getElem?_set_ne z] at e'
          exact ⟨o, e'⟩
end
end TV
/-! Rules: expressions, tests, plain statements. -/
namespace TV
open PySem PySem.Spec PyProof.Rows L2
/-- x is the i-th name, may be read, and its slot is s -/
inductive LookV : Nms → List Sl → Str → Nat → Sl → Prop
  | here {x : Str} {l : Bool} {r : Nms} {s : Sl} {sl : List Sl} : LookV ((x, true, l) :: r) (s :: sl) x 0 s
  | there {e : Str × Bool × Bool} {r : Nms} {t s : Sl} {sl : List Sl} {x : Str} {i : Nat} : LookV r sl x i s → LookV (e :: r) (t :: sl) x (i + 1) s
/-- x is the i-th name, may be stored; with s in its slot the slots are sl' -/
inductive PutV : Nms → List Sl → Str → Nat → Sl → List Sl → Prop
  | here {x : Str} {v : Bool} {r : Nms} {t s : Sl} {sl : List Sl} : PutV ((x, v, true) :: r) (t :: sl) x 0 s (s :: sl)
  | there {e : Str × Bool × Bool} {r : Nms} {t s : Sl} {sl sl' : List Sl} {x : Str} {i : Nat} : PutV r sl x i s sl' → PutV (e :: r) (t :: sl) x (i + 1) s (t :: sl')
theorem LookV.at : ∀ {nm : Nms} {sl : List Sl} {x : Str} {i : Nat} {s : Sl}, LookV nm sl x i s → (∃ l, nm[i]? = some (x, true, l)) ∧ sl[i]? = some s
  | _, _, _, _, _, .here => ⟨⟨_, rfl⟩, rfl⟩
  | _, _, _, _, _, .there h => by simpa using h.at
theorem PutV.at : ∀ {nm : Nms} {sl : List Sl} {x : Str} {i : Nat} {s : Sl} {sl' : List Sl}, PutV nm sl x i s sl' → (∃ v, nm[i]? = some (x, v, true)) ∧ sl' = sl.set i s ∧ i < sl.length
  | _, _, _, _, _, _, .here => ⟨⟨_, rfl⟩, rfl, by simp⟩
  | _, _, _, _, _, _, .there h => by
    obtain ⟨h1, h2, h3⟩ := h.at
    exact ⟨by simpa using h1, by rw [h2]; rfl, by simpa using h3⟩
theorem nm_name {nm : Nms} {i : Nat} {x : Str} {v l : Bool} (h : nm[i]? = some (x, v, l)) : (nm.map (·.1))[i]? = some x := by
  rw [List.getElem?_map, h]; rfl
section
variable {F : Fm} {B : Bs} {G : Gam} {nm : Nms} {Po : PoE} {Er : ErE} {x : Str} {i : Nat} {p pos : Pos} {a b e : Expr} {es : List Expr}
theorem name_here (hn : F.nm = nm) {sl : List Sl} {s : Sl} (h : LookV nm sl x i s) (c : F.J) : PE (F.X c) (.Name x p) (tVar i) := by
  subst hn
  obtain ⟨⟨l, q⟩, _⟩ := h.at
  have C := F.ok c
  exact pe_var (by rw [C.eN]; exact nm_name q) (C.vis i x l q) (C.db i _ q).1 (C.db i _ q).2
/-- a name that holds plain data -/
theorem we_var (hn : F.nm = nm) {d : D} (h : LookV nm G.sl x i (.pu d)) (k : Po d G) : WE F B (.Name x p) G Po Er := by
  intro σ P H Q hh hq hr
  obtain ⟨v, e, r⟩ := hh.get h.at.2
  exact of_pe (name_here hn h) ⟨v, e, hq d G v P H k hh Ex.rfl r⟩
/-- a name that holds a list of its own: from now on it is plain -/
theorem we_frz (hn : F.nm = nm) {xs : List D} (h : LookV nm G.sl x i (.ow (.lst xs))) (k : Po (.lst xs) { G with sl := G.sl.set i (.pu (.lst xs)) }) : WE F B (.Name x p) G Po Er := by
  intro σ P H Q hh hq hr
  obtain ⟨q, P', e, h1, h2, h3⟩ := hh.frzL h.at.2
  exact of_pe (name_here hn h) ⟨_, e, hq _ _ _ P' H k h1 h2 h3⟩
theorem we_int {n : Int} {j : Nat} (k : Po (.int n) G) : WE F B (.Constant (.int n) j pos) G Po Er := fun σ P H Q hh hq hr => of_pe (fun _ => pe_int) (hq _ G _ P H k hh Ex.rfl (.int n))
theorem we_bl {n : Bool} {j : Nat} (k : Po (.bl n) G) : WE F B (.Constant (.bool n) j pos) G Po Er := fun σ P H Q hh hq hr => of_pe (fun _ => pe_bl) (hq _ G _ P H k hh Ex.rfl (.bl n))
theorem we_non {j : Nat} (k : Po .non G) : WE F B (.Constant .none j pos) G Po Er := fun σ P H Q hh hq hr => of_pe (fun _ => pe_non) (hq _ G _ P H k hh Ex.rfl .non)
theorem we_str {z : Str} {j : Nat} (k : Po (.str z) G) : WE F B (.Constant (.str z) j pos) G Po Er := fun σ P H Q hh hq hr => of_pe (fun _ => pe_str) (hq _ G _ P H k hh Ex.rfl (.str z))
/-- a constant of the module -/
theorem we_gint {n : Int} {t : Tok} (hm : F.mg x = some (.int n t)) (hg : x ∈ F.gl) (hd : (x == ("__debug__" : Str)) = false) (k : Po (.int n) G) : WE F B (.Name x p) G Po Er := fun σ P H Q hh hq hr =>
  of_pe (fun c => pe_glob (v := .int n) ((F.ok c).glo x hg) (by rw [(F.ok c).emg]; exact hm) ⟨t, rfl⟩ hd) (hq _ G _ P H k hh Ex.rfl (.int n))
theorem we_gref {a : Addr} (hm : F.mg x = some (.ref a)) (hg : x ∈ F.gl) (hd : (x == ("__debug__" : Str)) = false) (k : Po (.ref a) G) : WE F B (.Name x p) G Po Er := fun σ P H Q hh hq hr =>
  of_pe (fun c => pe_glob (v := .ref a) ((F.ok c).glo x hg) (by rw [(F.ok c).emg]; exact hm) rfl hd) (hq _ G _ P H k hh Ex.rfl (.ref a))
/-- a built-in class as a value -/
theorem we_bty {T : String} (hm : F.mg x = none) (hv : bootBuiltins x = some (.type T)) (hg : x ∈ F.gl) (hn : x ≠ "__name__") (hd : (x == ("__debug__" : Str)) = false) (k : Po (.ty T) G) : WE F B (.Name x p) G Po Er := fun σ P H Q hh hq hr =>
  of_pe (fun c => pe_bltn (v := .ty T) ((F.ok c).glo x hg) (by rw [(F.ok c).emg]; exact hm) hv rfl hn hd) (hq _ G _ P H k hh Ex.rfl (.ty T))
/-! operators -/
theorem two_go {t : R2} (h : WE F B a G (fun d1 G1 => WE F B b G1 (fun d2 G2 => ∀ σ P H x y Q, Holds F.K B G2 σ P H → Rp F.K P x d1 → Rp F.K P y d2 → (∀ d G' v P' H', Po d G' → Holds F.K B G' σ P' H' → Ex P P' → Rp F.K P' v d → Q v H') → t x y H Q) Er) Er) :
    Wp F.K B F.W (tOp t (eR F.X a) (eR F.X b)) G Po Er := by
  intro σ P H Q hh hq hr
  refine h σ P H _ hh (fun d1 G1 v1 P1 H1 w1 h1 x1 r1 => ?_) hr
  refine w1 σ P1 H1 _ h1 (fun d2 G2 v2 P2 H2 w2 h2 x2 r2 => ?_) hr
  exact w2 σ P2 H2 v1 v2 Q h2 (r1.mono x2) r2 fun d G' v P' H' po h' x' r' => hq d G' v P' H' po h' ((x1.trans x2).trans x') r'
theorem Wp.to {t u : TE} (h : Wp F.K B F.W t G Po Er) (k : ∀ σ H Q, t σ H Q → u σ H Q) : Wp F.K B F.W u G Po Er := fun σ P H Q hh hq hr => k σ H Q (h σ P H Q hh hq hr)
theorem we_bin {op : Operator} (h : WE F B a G (fun d1 G1 => WE F B b G1 (fun d2 G2 => Op F B (binaryOp op) d1 d2 G2 Po) Er) Er) : WE F B (.BinOp a op b pos) G Po Er :=
  (two_go h).to fun σ H Q q => of_pe (fun c => pe_op (opR_ok c) (eR_pe c) (eR_pe c)) q
theorem we_un {op : UnaryOp} (h : WE F B a G (fun d1 G1 => Un1 F B (unaryOp op) d1 G1 Po) Er) : WE F B (.UnaryOp op a pos) G Po Er := by
  intro σ P H Q hh hq hr
  refine of_pe (fun c => pe_un (unR_ok c) (eR_pe c)) ?_
  refine h σ P H _ hh (fun d1 G1 v1 P1 H1 w1 h1 x1 r1 => ?_) hr
  exact w1 σ P1 H1 v1 Q h1 r1 fun d G' v P' H' po h' x' r' => hq d G' v P' H' po h' (x1.trans x') r'
theorem we_cmp {op : CmpOp} (hm : behindInMarks op b = false) (h : WE F B a G (fun d1 G1 => WE F B b G1 (fun d2 G2 => Op F B (compareOp op) d1 d2 G2 Po) Er) Er) : WE F B (.Compare a [op] [b] pos) G Po Er :=
  (two_go h).to fun σ H Q q => of_pe (fun c => pe_cmpR (opR_ok c) (eR_pe c) (eR_pe c) hm) q
theorem wt_cmp {Pb : Bool → Gam → Prop} {op : CmpOp} (hm : behindInMarks op b = false) (h : WE F B a G (fun d1 G1 => WE F B b G1 (fun d2 G2 => Op F B (compareOp op) d1 d2 G2 (fun d G' => ∃ k, d = .bl k ∧ Pb k G')) Er) Er) : WT F B (.Compare a [op] [b] pos) G Pb Er := by
  intro σ P H Q hh hq hr
  refine of_pt (fun c => pt_cmpR (opR_ok c) (eR_pe c) (eR_pe c) hm) ?_
  refine (two_go h) σ P H _ hh (fun d G' v P' H' po h' x' r' => ?_) hr
  obtain ⟨k, rfl, q⟩ := po
  cases r'
  exact ⟨k, rfl, hq k G' P' H' q h' x'⟩
/-- a op b op' c -/
theorem we_chain {c : Expr} {op op' : CmpOp} (hm : lastMarks [op, op'] [b, c] = false) (h : WE F B a G (fun d1 G1 => WE F B b G1 (fun d2 G2 => Op F B (compareOp op) d1 d2 G2 (fun d G3 => ∃ k, d = .bl k ∧
      (if k = true then WE F B c G3 (fun d3 G4 => Op F B (compareOp op') d2 d3 G4 Po) Er else Po (.bl false) G3))) Er) Er) : WE F B (.Compare a [op, op'] [b, c] pos) G Po Er := by
  intro σ P H Q hh hq hr
  refine of_pe (fun j => pe_chain (opR_ok j) (opR_ok j) (eR_pe j) (eR_pe j) (eR_pe j) hm) ?_
  refine h σ P H _ hh (fun d1 G1 v1 P1 H1 w1 h1 x1 r1 => ?_) hr
  refine w1 σ P1 H1 _ h1 (fun d2 G2 v2 P2 H2 w2 h2 x2 r2 => ?_) hr
  refine w2 σ P2 H2 v1 v2 _ h2 (r1.mono x2) r2 fun d G3 v P3 H3 po h3 x3 r3 => ?_
  obtain ⟨k, rfl, q⟩ := po
  cases r3
  refine ⟨k, rfl, ?_⟩
  cases k with
  | false =>
    rw [if_neg Bool.false_ne_true] at q ⊢
    exact hq _ G3 _ P3 H3 q h3 ((x1.trans x2).trans x3) (.bl false)
  | true =>
    rw [if_pos rfl] at q ⊢
    refine q σ P3 H3 _ h3 (fun d3 G4 v4 P4 H4 w4 h4 x4 r4 => ?_) hr
    exact w4 σ P4 H4 v2 v4 Q h4 (r2.mono (x3.trans x4)) r4 fun d G' v P' H' po h' x' r' => hq d G' v P' H' po h' ((((x1.trans x2).trans x3).trans x4).trans x') r'
theorem wt_of_chain {Pb : Bool → Gam → Prop} {c : Expr} {op op' : CmpOp} (hm : lastMarks [op, op'] [b, c] = false) (h : WE F B a G (fun d1 G1 => WE F B b G1 (fun d2 G2 => Op F B (compareOp op) d1 d2 G2 (fun d G3 => ∃ k, d = .bl k ∧
      (if k = true then WE F B c G3 (fun d3 G4 => Op F B (compareOp op') d2 d3 G4 (fun d G' => ∃ k, d = .bl k ∧ Pb k G')) Er else Pb false G3))) Er) Er) : WT F B (.Compare a [op, op'] [b, c] pos) G Pb Er := by
  intro σ P H Q hh hq hr
  refine of_pt (fun j => pt_chain (opR_ok j) (opR_ok j) (eR_pe j) (eR_pe j) (eR_pe j) hm) ?_
  refine h σ P H _ hh (fun d1 G1 v1 P1 H1 w1 h1 x1 r1 => ?_) hr
  refine w1 σ P1 H1 _ h1 (fun d2 G2 v2 P2 H2 w2 h2 x2 r2 => ?_) hr
  refine w2 σ P2 H2 v1 v2 _ h2 (r1.mono x2) r2 fun d G3 v P3 H3 po h3 x3 r3 => ?_
  obtain ⟨k, rfl, q⟩ := po
  cases r3
  refine ⟨k, rfl, ?_⟩
  cases k with
  | false =>
    rw [if_neg Bool.false_ne_true] at q ⊢
    exact ⟨false, rfl, hq _ G3 P3 H3 q h3 ((x1.trans x2).trans x3)⟩
  | true =>
    rw [if_pos rfl] at q ⊢
    refine q σ P3 H3 _ h3 (fun d3 G4 v4 P4 H4 w4 h4 x4 r4 => ?_) hr
    refine w4 σ P4 H4 v2 v4 _ h4 (r2.mono (x3.trans x4)) r4 fun d G' v P' H' po h' x' r' => ?_
    obtain ⟨k, rfl, q⟩ := po
    cases r'
    exact ⟨k, rfl, hq k G' P' H' q h' ((((x1.trans x2).trans x3).trans x4).trans x')⟩
/-! tests -/
section
variable {Pb : Bool → Gam → Prop} {rest : List Expr}
theorem wt_of_ww (h : WW F B e G Pb Er) : WT F B e G Pb Er := fun σ P H Q hh hq hr => of_pt (fun c => (wR_pw c).pt) (h σ P H Q hh hq hr)
theorem wt_not (h : WT F B a G (fun k G1 => Pb (!k) G1) Er) : WT F B (.UnaryOp .Not a pos) G Pb Er := fun σ P H Q hh hq hr =>
  of_pt (fun c => pt_not (tR_pt c)) (h σ P H _ hh (fun k G' P' H' po h' x' => hq (!k) G' P' H' po h' x') hr)
theorem ww_and1 (h : WT F B a G Pb Er) : WW F B (.BoolOp .And [a] pos) G Pb Er := fun σ P H Q hh hq hr => of_pw (fun c => pw_and1 (tR_pt c)) (h σ P H Q hh hq hr)
theorem ww_or1 (h : WT F B a G Pb Er) : WW F B (.BoolOp .Or [a] pos) G Pb Er := fun σ P H Q hh hq hr => of_pw (fun c => pw_or1 (tR_pt c)) (h σ P H Q hh hq hr)
theorem ww_and (h : WT F B a G (fun k G1 => if k = true then WW F B (.BoolOp .And (b :: rest) pos) G1 Pb Er else Pb false G1) Er) : WW F B (.BoolOp .And (a :: b :: rest) pos) G Pb Er := by
  intro σ P H Q hh hq hr
  refine of_pw (fun c => pw_and (tR_pt c) (wR_pw c)) ?_
  refine h σ P H _ hh (fun k G' P' H' po h' x' => ?_) hr
  cases k with
  | false => rw [if_neg Bool.false_ne_true] at po ⊢; exact hq _ _ _ _ po h' x'
  | true => rw [if_pos rfl] at po ⊢; exact po σ P' H' Q h' (fun b G2 P2 H2 p2 h2 x2 => hq b G2 P2 H2 p2 h2 (x'.trans x2)) hr
theorem ww_or (h : WT F B a G (fun k G1 => if k = true then Pb true G1 else WW F B (.BoolOp .Or (b :: rest) pos) G1 Pb Er) Er) : WW F B (.BoolOp .Or (a :: b :: rest) pos) G Pb Er := by
  intro σ P H Q hh hq hr
  refine of_pw (fun c => pw_or (tR_pt c) (wR_pw c)) ?_
  refine h σ P H _ hh (fun k G' P' H' po h' x' => ?_) hr
  cases k with
  | true => rw [if_pos rfl] at po ⊢; exact hq _ _ _ _ po h' x'
  | false => rw [if_neg Bool.false_ne_true] at po ⊢; exact po σ P' H' Q h' (fun b G2 P2 H2 p2 h2 x2 => hq b G2 P2 H2 p2 h2 (x'.trans x2)) hr
/-- the truth of a value -/
def tru : D → Option Bool
  | .non => some false
  | .bl b => some b
  | .int i => some (i != 0)
  | .lst xs => some (!xs.isEmpty)
  | .tup xs => some (!xs.isEmpty)
  | _ => none
theorem tru_ok {K : PySem.W.Frag} {P H : Hp} (x : Ex P H) {v : V} {d : D} (r : Rp K P v d) {k : Bool} (h : tru d = some k) : TruV K v H k := by
  cases r with
  | non => cases h; rfl
  | bl b => cases h; rfl
  | int i => cases h; rfl
  | str z => cases h
  | ty n => cases h
  | ref a => cases h
  | emp _ => cases h
  | tux _ _ _ => cases h
  | ins _ _ => cases h
  | tup s r =>
    cases h
    refine .inr (.inl ⟨_, x.sqT s, ?_⟩)
    cases r <;> rfl
  | lst s r =>
    cases h
    refine .inl ⟨_, x.sqL s, ?_⟩
    cases r <;> rfl
theorem wt_val (he : ∀ env whole, isTrue a env whole = (do let v ← whole; standAt a.pos; holding [v] (truthy v))) (h : WE F B a G (fun d G1 => ∃ k, tru d = some k ∧ Pb k G1) Er) : WT F B a G Pb Er := by
  intro σ P H Q hh hq hr
  refine of_pt (t := fun σ H Q => eR F.X a σ H fun x H' => ∃ k, TruV F.K x H' k ∧ Q k H') (fun c => ?_) ?_
  · have q := pt_truth (X := F.X c) (eR_pe c) (he _)
    rw [(F.ok c).eK] at q
    exact q
  · refine h σ P H _ hh (fun d G' v P' H' po h' x' r' => ?_) hr
    obtain ⟨k, t, q⟩ := po
    exact ⟨k, tru_ok h'.ex r' t, hq k G' P' H' q h' x'⟩
theorem we_ifexp {c : Expr} (h : WT F B c G (fun k G1 => if k = true then WE F B a G1 Po Er else WE F B b G1 Po Er) Er) : WE F B (.IfExp c a b pos) G Po Er := by
  intro σ P H Q hh hq hr
  refine of_pe (fun j => pe_ifExp (tR_pt j) (eR_pe j) (eR_pe j)) ?_
  refine h σ P H _ hh (fun k G' P' H' po h' x' => ?_) hr
  cases k with
  | true => rw [if_pos rfl] at po ⊢; exact po σ P' H' Q h' (fun d G2 v P2 H2 p2 h2 x2 r2 => hq d G2 v P2 H2 p2 h2 (x'.trans x2) r2) hr
  | false => rw [if_neg Bool.false_ne_true] at po ⊢; exact po σ P' H' Q h' (fun d G2 v P2 H2 p2 h2 x2 r2 => hq d G2 v P2 H2 p2 h2 (x'.trans x2) r2) hr
/-- a and b, a or b, not a, as values that are flags -/
theorem we_one {op : BoolOp} (h : WE F B a G Po Er) : WE F B (.BoolOp op [a] pos) G Po Er := fun σ P H Q hh hq hr => of_pe (fun c => pe_one (eR_pe c)) (h σ P H Q hh hq hr)
theorem we_and (h : WE F B a G (fun d G1 => ∃ k, d = .bl k ∧ (if k = true then WE F B (.BoolOp .And (b :: rest) pos) G1 Po Er else Po (.bl false) G1)) Er) : WE F B (.BoolOp .And (a :: b :: rest) pos) G Po Er := by
  intro σ P H Q hh hq hr
  refine of_pe (fun c => pe_and (eR_pe c) (eR_pe c)) ?_
  refine h σ P H _ hh (fun d G' v P' H' po h' x' r' => ?_) hr
  obtain ⟨k, rfl, q⟩ := po
  cases r'
  refine ⟨k, rfl, ?_⟩
  cases k with
  | false => rw [if_neg Bool.false_ne_true] at q ⊢; exact hq _ _ _ _ _ q h' x' (.bl false)
  | true => rw [if_pos rfl] at q ⊢; exact q σ P' H' Q h' (fun d G2 v P2 H2 p2 h2 x2 r2 => hq d G2 v P2 H2 p2 h2 (x'.trans x2) r2) hr
theorem we_or (h : WE F B a G (fun d G1 => ∃ k, d = .bl k ∧ (if k = true then Po (.bl true) G1 else WE F B (.BoolOp .Or (b :: rest) pos) G1 Po Er)) Er) : WE F B (.BoolOp .Or (a :: b :: rest) pos) G Po Er := by
  intro σ P H Q hh hq hr
  refine of_pe (fun c => pe_or (eR_pe c) (eR_pe c)) ?_
  refine h σ P H _ hh (fun d G' v P' H' po h' x' r' => ?_) hr
  obtain ⟨k, rfl, q⟩ := po
  cases r'
  refine ⟨k, rfl, ?_⟩
  cases k with
  | true => rw [if_pos rfl] at q ⊢; exact hq _ _ _ _ _ q h' x' (.bl true)
  | false => rw [if_neg Bool.false_ne_true] at q ⊢; exact q σ P' H' Q h' (fun d G2 v P2 H2 p2 h2 x2 r2 => hq d G2 v P2 H2 p2 h2 (x'.trans x2) r2) hr
theorem we_not (h : WE F B a G (fun d G1 => ∃ k, d = .bl k ∧ Po (.bl (!k)) G1) Er) : WE F B (.UnaryOp .Not a pos) G Po Er := by
  intro σ P H Q hh hq hr
  refine of_pe (fun c => pe_not (eR_pe c)) ?_
  refine h σ P H _ hh (fun d G' v P' H' po h' x' r' => ?_) hr
  obtain ⟨k, rfl, q⟩ := po
  cases r'
  exact ⟨k, rfl, hq _ _ _ _ _ q h' x' (.bl (!k))⟩
end
/-! arguments and displays -/
section
variable {Pa : List AV → Gam → Prop}
theorem wa_nil (k : Pa [] G) : WA F B [] G Pa Er := fun σ P H Q hh hq hr => of_pa (fun _ => pa_nil) (hq [] G [] P H k hh Ex.rfl .nil)
theorem wa_cons (hs : ∀ env, starEach (e :: es) env = (false, eval e env) :: starEach es env) (h : WE F B e G (fun d G1 => WA F B es G1 (fun as G2 => Pa (.pu d :: as) G2) Er) Er) : WA F B (e :: es) G Pa Er := by
  intro σ P H Q hh hq hr
  refine of_pa (fun c => pa_cons (eR_pe c) (aR_pa c) (hs _)) ?_
  refine h σ P H _ hh (fun d G1 v P1 H1 w1 h1 x1 r1 => ?_) hr
  exact w1 σ P1 H1 _ h1 (fun as G2 vs P2 H2 w2 h2 x2 r2 => hq _ G2 _ P2 H2 w2 h2 (x1.trans x2) (.cons (.pu (r1.mono x2)) r2)) hr
/-- an argument that may be changed: a slot's own object -/
theorem wa_hs (hn : F.nm = nm) {o : Ob} (h : LookV nm G.sl x i (.ow o)) (hs : ∀ env, starEach (.Name x p :: es) env = (false, eval (.Name x p) env) :: starEach es env) (k : WA F B es G (fun as G2 => Pa (.hs i :: as) G2) Er) : WA F B (.Name x p :: es) G Pa Er := by
  intro σ P H Q hh hq hr
  refine of_pa (fun c => pa_cons (name_here hn h c) (aR_pa c) (hs _)) ?_
  obtain ⟨q, e, _, _, _⟩ := hh.getO h.at.2
  refine ⟨.ref q, e, k σ P H _ hh (fun as G2 vs P2 H2 w2 h2 x2 r2 => hq _ G2 _ P2 H2 w2 h2 x2 (.cons (.hs e) r2)) hr⟩
theorem wa_ha (hn : F.nm = nm) {j : Nat} {o : Ob} (h : LookV nm G.sl x i (.ar j)) (ho : G.ar[j]? = some o) (hs : ∀ env, starEach (.Name x p :: es) env = (false, eval (.Name x p) env) :: starEach es env) (k : WA F B es G (fun as G2 => Pa (.ha j :: as) G2) Er) : WA F B (.Name x p :: es) G Pa Er := by
  intro σ P H Q hh hq hr
  refine of_pa (fun c => pa_cons (name_here hn h c) (aR_pa c) (hs _)) ?_
  obtain ⟨q, e, eA, _, _⟩ := hh.getA h.at.2 ho
  exact ⟨.ref q, e, k σ P H _ hh (fun as G2 vs P2 H2 w2 h2 x2 r2 => hq _ G2 _ P2 H2 w2 h2 x2 (.cons (.ha eA) r2)) hr⟩
end
/-- all arguments are plain -/
inductive Pus : List AV → List D → Prop
  | nil : Pus [] []
  | cons {d : D} {as : List AV} {ds : List D} : Pus as ds → Pus (.pu d :: as) (d :: ds)
theorem Pus.ok {K : PySem.W.Frag} {σ : L2.St} {P : Hp} : ∀ {vs : List V} {as : List AV} {ds : List D}, Pus as ds → AvsOk K B σ P vs as → RpL K P vs ds
  | _, _, _, .nil, .nil => .nil
  | _, _, _, .cons a, .cons (.pu r) h => .cons r (a.ok h)
theorem we_tup {j : Nat} (h : WA F B es G (fun as G1 => ∃ ds, Pus as ds ∧ ds.length ≤ 100000 ∧ Po (.tup ds) G1) Er) : WE F B (.Tuple es j pos) G Po Er := by
  intro σ P H Q hh hq hr
  refine of_pe (fun c => pe_tup (aR_pa c)) ?_
  refine h σ P H _ hh (fun as G1 vs P1 H1 w1 h1 x1 r1 => ?_) hr
  obtain ⟨ds, u, hl, k⟩ := w1
  have rl := u.ok r1
  refine ⟨by rw [rl.length]; exact Nat.le_trans hl (by decide), fun q hq' => ?_⟩
  obtain ⟨h2, x2⟩ := h1.newP (o := .tup vs) hq'
  exact hq _ G1 _ _ _ k h2 (x1.trans x2) (.tup (.inl (.inl upd_same)) (rl.mono x2))
theorem we_lst (h : WA F B es G (fun as G1 => ∃ ds, Pus as ds ∧ ds.length ≤ 100000 ∧ Po (.lst ds) G1) Er) : WE F B (.List es pos) G Po Er := by
  intro σ P H Q hh hq hr
  refine of_pe (fun c => pe_lst (aR_pa c)) ?_
  refine h σ P H _ hh (fun as G1 vs P1 H1 w1 h1 x1 r1 => ?_) hr
  obtain ⟨ds, u, hl, k⟩ := w1
  have rl := u.ok r1
  refine ⟨by rw [rl.length]; exact Nat.le_trans hl (by decide), fun q hq' => ?_⟩
  obtain ⟨h2, x2⟩ := h1.newP (o := .lst vs) hq'
  exact hq _ G1 _ _ _ k h2 (x1.trans x2) (.lst (.inl (.inl upd_same)) (rl.mono x2))
/-! calls of built-ins -/
theorem we_callB {id : String} (hm : F.mg x = none) (hv : bootBuiltins x = some (.builtin id)) (hg : x ∈ F.gl) (hn : x ≠ "__name__") (hd : (x == ("__debug__" : Str)) = false) (he : ∀ env, starEach (e :: es) env = (false, eval e env) :: starEach es env) (hpl : ∀ env, (backTo pos (starEach es env)).any (·.1) = false)
    (h : WA F B (e :: es) G (fun as G1 => Cb F B (.builtin id) as G1 Po Er) Er) : WE F B (.Call (.Name x p) (e :: es) [] pos) G Po Er := by
  intro σ P H Q hh hq hr
  refine of_pe (fun c => pe_callB (cbR_ok c) ((F.ok c).glo x hg) (by rw [(F.ok c).emg]; exact hm) hv (aR_pa c) hn hd (he _) (hpl _)) ?_
  refine h σ P H _ hh (fun as G1 vs P1 H1 w1 h1 x1 r1 => ?_) hr
  exact w1 σ P1 H1 vs Q h1 r1 fun d G' v P' H' po h' x' r' => hq d G' v P' H' po h' (x1.trans x') r'
theorem we_callTy {T : String} (hm : F.mg x = none) (hv : bootBuiltins x = some (.type T)) (hg : x ∈ F.gl) (hn : x ≠ "__name__") (hd : (x == ("__debug__" : Str)) = false) (he : ∀ env, starEach (e :: es) env = (false, eval e env) :: starEach es env) (hpl : ∀ env, (backTo pos (starEach es env)).any (·.1) = false)
    (h : WA F B (e :: es) G (fun as G1 => Cb F B (.type T) as G1 Po Er) Er) : WE F B (.Call (.Name x p) (e :: es) [] pos) G Po Er := by
  intro σ P H Q hh hq hr
  refine of_pe (fun c => pe_callTy (cbR_ok c) ((F.ok c).glo x hg) (by rw [(F.ok c).emg]; exact hm) hv (aR_pa c) hn hd (he _) (hpl _)) ?_
  refine h σ P H _ hh (fun as G1 vs P1 H1 w1 h1 x1 r1 => ?_) hr
  exact w1 σ P1 H1 vs Q h1 r1 fun d G' v P' H' po h' x' r' => hq d G' v P' H' po h' (x1.trans x') r'
/-! subscripts -/
theorem we_ix (hs : ∀ o i, subscripted b false o i = operate [o, i] (getItem o i)) (h : WE F B a G (fun d1 G1 => WE F B b G1 (fun d2 G2 => Ix F B d1 d2 G2 Po) Er) Er) : WE F B (.Subscript a b pos) G Po Er :=
  (two_go h).to fun σ H Q q => of_pe (fun c => pe_ix (ixR_ok c) (eR_pe c) (eR_pe c) hs) q
end
end TV
/-! Rules: statements, lists of one's own. -/
namespace TV
open PySem PySem.Spec PyProof.Rows L2
/-- what is wanted of a reading that makes a new object -/
def WpO (K : PySem.W.Frag) (B : Bs) (W : WX) (te : TE) (G : Gam) (Po : Ob → Gam → Prop) (Er : ErE) : Prop := ∀ σ P H Q, Holds K B G σ P H → (∀ o G' p P' H', Po o G' → Holds K (B.push p o) G' σ P' H' → Ex P P' → Q (.ref p) H') →
  (∀ C fs G' a P' H', Er C fs G' → HoldsX K B G' σ P' H' a fs → W (.ref C) a σ H') → te σ H Q
def WO (F : Fm) (B : Bs) (e : Expr) (G : Gam) (Po : Ob → Gam → Prop) (Er : ErE) : Prop := WpO F.K B F.W (eR F.X e) G Po Er
section
variable {F : Fm} {B : Bs} {G : Gam} {nm : Nms} {Po : PoE} {Er : ErE} {N : En} {x y : Str} {i j : Nat} {p pos pos' : Pos} {a b e : Expr} {es : List Expr} {st : Stmt} {rest : List Stmt}
theorem wo_disp {Po : Ob → Gam → Prop} (h : WA F B es G (fun as G1 => ∃ ds, Pus as ds ∧ ds.length ≤ 100000 ∧ Po (.lst ds) G1) Er) : WO F B (.List es pos) G Po Er := by
  intro σ P H Q hh hq hr
  refine of_pe (fun c => pe_lst (aR_pa c)) ?_
  refine h σ P H _ hh (fun as G1 vs P1 H1 w1 h1 x1 r1 => ?_) hr
  obtain ⟨ds, u, hl, k⟩ := w1
  have rl := u.ok r1
  refine ⟨by rw [rl.length]; exact Nat.le_trans hl (by decide), fun q hq' => ?_⟩
  exact hq _ G1 q P1 _ k (h1.pushT hq' (.lst upd_same rl)) x1
/-! statements -/
theorem wss_nil (k : N.nx G) : WSs F B [] G N := fun σ P H D hh hn ht hb hc hr => of_pss (fun _ => pss_nil) (hn G σ P H k hh)
theorem wss_cons (h : WS F B st G { N with nx := fun G1 => WSs F B rest G1 N }) : WSs F B (st :: rest) G N := by
  intro σ P H D hh hn ht hb hc hr
  refine of_pss (fun c => pss_cons (sR_ps c) (ssR_pss c)) ?_
  exact h σ P H { D with nx := ssR F.X rest D } hh (fun G' σ' P' H' k h' => k σ' P' H' D h' hn ht hb hc hr) ht hb hc hr
theorem ws_asg (hn : F.nm = nm) (hs : ∀ c, swapsWith e (some (.Name x pos')) pos.line (F.X c).env = pure false) (h : WE F B e G (fun d G1 => ∃ sl, PutV nm G1.sl x i (.pu d) sl ∧ N.nx { G1 with sl := sl }) N.er) (hi : ∃ v, nm[i]? = some (x, v, true)) : WS F B (.Assign [.Name x pos'] e pos) G N := by
  subst hn
  obtain ⟨v, hi⟩ := hi
  intro σ P H D hh hnx ht hb hc hr
  refine of_ps (t := tAsg (eR F.X e) (gName i)) (fun c => ?_) ?_
  · have C := F.ok c
    obtain ⟨l1, l2⟩ := C.loc i x v hi
    exact ps_set (by rw [C.eN]; exact C.nd) (by rw [C.eN]; exact nm_name hi) l1 (eR_pe c) (hs c) l2
  · refine h σ P H _ hh (fun d G' v P' H' po h' x' r' => ?_) (fun C fs G' a P' H' => hr C fs G' a σ P' H')
    obtain ⟨sl, pv, k⟩ := po
    obtain ⟨_, rfl, hl⟩ := pv.at
    exact hnx _ _ P' H' k (h'.set r' hl)
/-- name = a new list (or object) of its own -/
theorem ws_asgO (hn : F.nm = nm) (hs : ∀ c, swapsWith e (some (.Name x pos')) pos.line (F.X c).env = pure false) (h : WO F B e G (fun o G1 => ∃ sl, PutV nm G1.sl x i (.ow o) sl ∧ N.nx { G1 with sl := sl }) N.er) (hi : ∃ v, nm[i]? = some (x, v, true)) : WS F B (.Assign [.Name x pos'] e pos) G N := by
  subst hn
  obtain ⟨v, hi⟩ := hi
  intro σ P H D hh hnx ht hb hc hr
  refine of_ps (t := tAsg (eR F.X e) (gName i)) (fun c => ?_) ?_
  · have C := F.ok c
    obtain ⟨l1, l2⟩ := C.loc i x v hi
    exact ps_set (by rw [C.eN]; exact C.nd) (by rw [C.eN]; exact nm_name hi) l1 (eR_pe c) (hs c) l2
  · refine h σ P H _ hh (fun o G' p P' H' po h' x' => ?_) (fun C fs G' a P' H' => hr C fs G' a σ P' H')
    obtain ⟨sl, pv, k⟩ := po
    obtain ⟨_, rfl, hl⟩ := pv.at
    exact hnx _ _ P' H' k (h'.takeT hl)
theorem ws_ret (h : WE F B e G N.rt N.er) : WS F B (.Return (some e) pos) G N := by
  intro σ P H D hh hn ht hb hc hr
  refine of_ps (fun c => ps_ret (eR_pe c)) ?_
  exact h σ P H _ hh (fun d G' v P' H' po h' x' r' => ht d G' v σ P' H' po h' r') (fun C fs G' a P' H' => hr C fs G' a σ P' H')
theorem ws_retN (k : N.rt .non G) : WS F B (.Return none pos) G N := fun σ P H D hh hn ht hb hc hr => of_ps (fun c => ps_retN) (ht .non G .non σ P H k hh .non)
theorem ws_expr (hs : ∀ env, swapsWith e none pos.line env = pure false) (h : WE F B e G (fun _ G1 => N.nx G1) N.er) : WS F B (.Expr e pos) G N := by
  intro σ P H D hh hn ht hb hc hr
  refine of_ps (fun c => ps_expr (eR_pe c) (hs _)) ?_
  exact h σ P H _ hh (fun d G' v P' H' po h' x' r' => hn G' σ P' H' po h') (fun C fs G' a P' H' => hr C fs G' a σ P' H')
theorem ws_if {c : Expr} {s1 s2 : List Stmt} (h : WT F B c G (fun k G1 => if k = true then WSs F B s1 G1 N else WSs F B s2 G1 N) N.er) : WS F B (.If c s1 s2 pos) G N := by
  intro σ P H D hh hn ht hb hc hr
  refine of_ps (fun j => ps_if (tR_pt j) (ssR_pss j) (ssR_pss j)) ?_
  refine h σ P H _ hh (fun k G' P' H' po h' x' => ?_) (fun C fs G' a P' H' => hr C fs G' a σ P' H')
  cases k with
  | true => rw [if_pos rfl] at po ⊢; exact po σ P' H' D h' hn ht hb hc hr
  | false => rw [if_neg Bool.false_ne_true] at po ⊢; exact po σ P' H' D h' hn ht hb hc hr
theorem ws_pass (k : N.nx G) : WS F B (.Pass pos) G N := fun σ P H D hh hn ht hb hc hr => of_ps (fun c => ps_pass) (hn G σ P H k hh)
theorem ws_break (k : N.bk G) : WS F B (.Break pos) G N := fun σ P H D hh hn ht hb hc hr => of_ps (fun c => ps_break) (hb G σ P H k hh)
theorem ws_continue (k : N.ct G) : WS F B (.Continue pos) G N := fun σ P H D hh hn ht hb hc hr => of_ps (fun c => ps_continue) (hc G σ P H k hh)
/-- a, b = e1, e2 -/
theorem ws_par (hn : F.nm = nm) (hc : F.cm = true) {px py pt pt2 : Pos} {kt k2 : Nat} (hij : i ≠ j) (hi : nm[i]? = some (x, true, true)) (hj : nm[j]? = some (y, true, true)) (lx : ∀ c, (F.X c).env.scope.names.lookup x = some .local) (ly : ∀ c, (F.X c).env.scope.names.lookup y = some .local)
    (hw : ∀ c, swappedStores [.Tuple [.Name x px, .Name y py] kt pt] (.Tuple [a, b] k2 pt2) (F.X c).env = pure (some [x, y])) (hs : ∀ c, swapsWithSole [.Tuple [.Name x px, .Name y py] kt pt] (.Tuple [a, b] k2 pt2) pos.line (F.X c).env = pure false)
    (h : WA F B [a, b] G (fun as G1 => ∃ d1 d2 sl sl', as = [.pu d1, .pu d2] ∧ PutV nm G1.sl x i (.pu d1) sl ∧ PutV nm sl y j (.pu d2) sl' ∧ N.nx { G1 with sl := sl' }) N.er) :
    WS F B (.Assign [.Tuple [.Name x px, .Name y py] kt pt] (.Tuple [a, b] k2 pt2) pos) G N := by
  subst hn
  intro σ P H D hh hnx ht hb hcc hr
  refine of_ps (t := tPar i j (aR F.X [a, b])) (fun c => ?_) ?_
  · have C := F.ok c
    exact ps_par (C.calm.trans hc) (by rw [C.eN]; exact C.nd) (by rw [C.eN]; exact nm_name hi) (by rw [C.eN]; exact nm_name hj) hij (lx c) (ly c) (aR_pa c) (hw c) (hs c)
  · refine h σ P H _ hh (fun as G' vs P' H' po h' x' r' => ?_) (fun C fs G' a P' H' => hr C fs G' a σ P' H')
    obtain ⟨d1, d2, sl, sl', rfl, p1, p2, k⟩ := po
    obtain ⟨_, rfl, hl1⟩ := p1.at
    obtain ⟨_, rfl, hl2⟩ := p2.at
    cases r' with
    | cons r1 r2 =>
      cases r1 with
      | pu r1 =>
        cases r2 with
        | cons r2 r3 =>
          cases r3
          cases r2 with
          | pu r2 => exact ⟨_, _, rfl, hnx _ _ P' H' k ((h'.set r1 hl1).set (G := { G' with sl := G'.sl.set i (.pu d1) }) r2 hl2)⟩
/-- name op= e -/
theorem ws_aug (hn : F.nm = nm) {op : Operator} {s0 : D} (hl : LookV nm G.sl x i (.pu s0)) (hi : ∃ v, nm[i]? = some (x, v, true))
    (h : WE F B e G (fun d G1 => Op F B (inplaceOp op) s0 d G1 (fun d' G2 => ∃ sl, PutV nm G2.sl x i (.pu d') sl ∧ N.nx { G2 with sl := sl })) N.er) : WS F B (.AugAssign (.Name x pos') op e pos) G N := by
  subst hn
  obtain ⟨v, hi⟩ := hi
  intro σ P H D hh hnx ht hb hc hr
  refine of_ps (t := tAug i (eR F.X e) (opR F.X (inplaceOp op))) (fun c => ?_) ?_
  · have C := F.ok c
    obtain ⟨l1, l2⟩ := C.loc i x v hi
    exact ps_aug (by rw [C.eN]; exact C.nd) (by rw [C.eN]; exact nm_name hi) l1 (eR_pe c) (fun pins s σ H x y v u Q I r1 r2 q => q c pins s σ v u I r1 r2) l2
  · obtain ⟨v0, e0, r0⟩ := hh.get hl.at.2
    refine ⟨v0, e0, ?_⟩
    refine h σ P H _ hh (fun d G' v P' H' po h' x' r' => ?_) (fun C fs G' a P' H' => hr C fs G' a σ P' H')
    refine po σ P' H' v0 v _ h' (r0.mono x') r' fun d2 G2 v2 P2 H2 w2 h2 x2 r2 => ?_
    obtain ⟨sl, pv, k⟩ := w2
    obtain ⟨_, rfl, hl⟩ := pv.at
    exact hnx _ _ P2 H2 k (h2.set r2 hl)
inductive SetS : List Sl → Nat → Sl → List Sl → Prop
  | here {t s : Sl} {sl : List Sl} : SetS (t :: sl) 0 s (s :: sl)
  | there {t s : Sl} {sl sl' : List Sl} {i : Nat} : SetS sl i s sl' → SetS (t :: sl) (i + 1) s (t :: sl')
theorem SetS.at : ∀ {sl : List Sl} {i : Nat} {s : Sl} {sl' : List Sl}, SetS sl i s sl' → sl' = sl.set i s
  | _, _, _, _, .here => rfl
  | _, _, _, _, .there h => by rw [h.at]; rfl
/-! lists that may be changed: read, stored -/
theorem rd_own {K : PySem.W.Frag} {P H : Hp} {q : Addr} {xs : List D} {n : Int} {d : D} (o : ObAt K P H q (.lst xs)) (ha : atI xs n = some d) : ∃ vs v, SqL K H q vs ∧ atI vs n = some v ∧ Rp K P v d := by
  cases o with
  | @lst vs _ hu r =>
    unfold atI at ha
    cases e : ixN xs.length n with
    | none => rw [e] at ha; cases ha
    | some m =>
      rw [e] at ha
      obtain ⟨v, h1, h2⟩ := r.at (show xs[m]? = some d from ha)
      refine ⟨vs, v, .inl (.inl hu), ?_, h2⟩
      unfold atI
      rw [r.length, e]
      exact h1
theorem we_ixA (hn : F.nm = nm) (hs : ∀ o i, subscripted b false o i = operate [o, i] (getItem o i)) (hl : LookV nm G.sl x i (.ar j)) {xs : List D} (ho : G.ar[j]? = some (.lst xs))
    (h : WE F B b G (fun d G1 => G1.sl = G.sl ∧ G1.ar = G.ar ∧ ∃ n y, d = .int n ∧ atI xs n = some y ∧ Po y G1) Er) : WE F B (.Subscript (.Name x p) b pos) G Po Er := by
  intro σ P H Q hh hq hr
  refine of_pe (t := tOp (rIxL F.K) (tVar i) (eR F.X b)) (fun c => ?_) ?_
  · have q := pe_ix (pos := pos) (@ix_list (F.X c)) (name_here (p := p) hn hl c) (eR_pe (e := b) c) hs
    rw [(F.ok c).eK] at q
    exact q
  · obtain ⟨q, e, eA, n, o⟩ := hh.getA hl.at.2 ho
    refine ⟨_, e, h σ P H _ hh (fun d G' v P' H' po h' x' r' => ?_) hr⟩
    obtain ⟨_, ea, n, y, rfl, ha, k⟩ := po
    cases r'
    rw [← ea] at ho
    obtain ⟨_, o'⟩ := h'.ars.get eA ho
    obtain ⟨vs, v, s, av, rv⟩ := rd_own o' ha
    exact ⟨q, vs, n, v, rfl, rfl, s, av, hq y G' v P' H' k h' x' rv⟩
theorem we_ixO (hn : F.nm = nm) (hs : ∀ o i, subscripted b false o i = operate [o, i] (getItem o i)) {xs : List D} (hl : LookV nm G.sl x i (.ow (.lst xs)))
    (h : WE F B b G (fun d G1 => G1.sl = G.sl ∧ ∃ n y, d = .int n ∧ atI xs n = some y ∧ Po y G1) Er) : WE F B (.Subscript (.Name x p) b pos) G Po Er := by
  intro σ P H Q hh hq hr
  refine of_pe (t := tOp (rIxL F.K) (tVar i) (eR F.X b)) (fun c => ?_) ?_
  · have q := pe_ix (pos := pos) (@ix_list (F.X c)) (name_here (p := p) hn hl c) (eR_pe (e := b) c) hs
    rw [(F.ok c).eK] at q
    exact q
  · obtain ⟨q, e, _, _, _⟩ := hh.getO hl.at.2
    refine ⟨_, e, h σ P H _ hh (fun d G' v P' H' po h' x' r' => ?_) hr⟩
    obtain ⟨es, n, y, rfl, ha, k⟩ := po
    cases r'
    obtain ⟨q2, e2, _, _, o'⟩ := h'.getO (by rw [es]; exact hl.at.2)
    rw [e] at e2; cases e2
    obtain ⟨vs, v, s, av, rv⟩ := rd_own o' ha
    exact ⟨_, vs, n, v, rfl, rfl, s, av, hq y G' v P' H' k h' x' rv⟩
theorem put_own {K : PySem.W.Frag} {P H : Hp} {q : Addr} {xs : List D} {n : Int} {m : Nat} {v : V} {d : D} (o : ObAt K P H q (.lst xs)) (r : Rp K P v d) (hm : ixN xs.length n = some m) : ∃ vs, H q = some (.lst vs) ∧ ixN vs.length n = some m ∧ ObAt K P (upd H q (.lst (vs.set m v))) q (.lst (xs.set m d)) := by
  cases o with
  | @lst vs _ hu rl => exact ⟨vs, hu, by rw [rl.length]; exact hm, .lst upd_same (rl.set r m)⟩
/-- x[b] = e, x an object that was handed in -/
theorem ws_setA (hn : F.nm = nm) {pt : Pos} (hl : LookV nm G.sl x i (.ar j)) (hs1 : ∀ env, swapsWithSole [.Subscript (.Name x p) b pt] e pos.line env = pure false) (hw : ∀ env, swappedStores [.Subscript (.Name x p) b pt] e env = pure none) (h1 : ∀ env, (assignEach [.Subscript (.Name x p) b pt] env).map (·.2) = [assign (.Subscript (.Name x p) b pt) env])
    (hg : ∀ c, PG (F.X c) (.Subscript (.Name x p) b pt) (gSub (tVar i) (eR F.X b) rSetL))
    (h : WE F B e G (fun d G1 => G1.sl = G.sl ∧ WE F B b G1 (fun d2 G2 => G2.sl = G.sl ∧ ∃ n xs m, d2 = .int n ∧ G2.ar[j]? = some (.lst xs) ∧ ixN xs.length n = some m ∧ N.nx { G2 with ar := G2.ar.set j (.lst (xs.set m d)) }) N.er) N.er) :
    WS F B (.Assign [.Subscript (.Name x p) b pt] e pos) G N := by
  intro σ P H D hh hnx ht hb hc hr
  refine of_ps (fun c => ps_asg (eR_pe c) (hg c) (hs1 _) (hw _) (h1 _)) ?_
  refine h σ P H _ hh (fun d G1 v P1 H1 po h1 x1 r1 => ?_) (fun C fs G' a P' H' => hr C fs G' a σ P' H')
  obtain ⟨es, k⟩ := po
  obtain ⟨q, m', e1, sk⟩ := h1.slot (by rw [es]; exact hl.at.2)
  cases sk with
  | @ar q _ eA =>
    refine ⟨_, e1, k σ P1 H1 _ h1 (fun d2 G2 v2 P2 H2 w2 h2 x2 r2 => ?_) (fun C fs G' a P' H' => hr C fs G' a σ P' H')⟩
    obtain ⟨_, n, xs, m, rfl, eo, hm, k2⟩ := w2
    cases r2
    obtain ⟨_, o2⟩ := h2.ars.get eA eo
    obtain ⟨vs, g1, g2, g3⟩ := put_own o2 (r1.mono x2) hm
    exact ⟨q, vs, n, m, rfl, rfl, g1, g2, hnx _ σ P2 _ k2 (h2.chgA eA eo g3)⟩
end
end TV
/-! Rules: loops and comprehensions. -/
namespace TV
open PySem PySem.Spec PyProof.Rows L2
/-- what is walked gives the items ds, one after the other -/
def WalkD (K : PySem.W.Frag) (J : It) (P1 : Hp) (ds : List D) : Prop := ∃ (Gc : Hp → Prop) (Y : Nat → Hp → V → Hp → Prop), Walk J ds.length Gc Y ∧ (∀ H, Ex P1 H → Gc H) ∧
  ∀ i H x H', i < ds.length → Y i H x H' → ∃ d, ds[i]? = some d ∧ ((H' = H ∧ Rp K P1 x d) ∨ ∃ T vs es, x = .ref T ∧ H T = none ∧ H' = upd H T (.tup vs) ∧ d = .tup es ∧ RpL K P1 vs es)
section
variable (F : Fm) (B : Bs)
/-- only the slots js change -/
def Only1 (js : List Nat) (σ σ' : L2.St) : Prop := ∀ vs, (∀ j, j ∈ js → j ∈ vs) → wipe σ' vs = wipe σ vs
def WG (tg : Expr) (js : List Nat) (d : D) (G : Gam) (Po : Gam → Prop) : Prop := ∀ σ P H v Q, Holds F.K B G σ P H → Rp F.K P v d → (∀ G' σ' P' H', Po G' → Holds F.K B G' σ' P' H' → Ex P P' → Only1 js σ σ' → Q σ' H') → gR F.X tg v σ H Q
def WI (tg iter : Expr) (G : Gam) (Po : List D → Gam → Prop) (Er : ErE) : Prop := ∀ σ P H R, Holds F.K B G σ P H → (∀ ds G' J P' H', Po ds G' → Holds F.K B G' σ P' H' → Ex P P' → WalkD F.K J P' ds → R J H') →
  (∀ C fs G' a P' H', Er C fs G' → HoldsX F.K B G' σ P' H' a fs → F.W (.ref C) a σ H') → iR F.X tg iter σ H R
end
theorem wipe_set {σ : L2.St} {j : Nat} {x : Option V} : ∀ {vs : List Nat}, j ∈ vs → wipe (σ.set j x) vs = wipe σ vs
  | v :: vs, h => by
    unfold wipe
    by_cases e : j = v
    · subst e
      have : ∀ (ws : List Nat), (wipe (σ.set j x) ws).set j none = (wipe σ ws).set j none := by
        intro ws
        induction ws with
        | nil => simp [wipe]
        | cons w ws ih =>
          unfold wipe
          by_cases q : w = j
          · subst q; simp [ih]
          · rw [List.set_comm _ _ q, ih, List.set_comm _ _ (Ne.symm q)]
      exact this vs
    · rw [wipe_set (vs := vs) (by rcases List.mem_cons.mp h with z | z; exact absurd z e; exact z)]
section
variable {F : Fm} {B : Bs} {G : Gam} {nm : Nms} {Po : PoE} {Er : ErE} {N : En} {x : Str} {i : Nat} {p pos pos' : Pos} {a b e tg iter : Expr} {es : List Expr} {body : List Stmt}
theorem gR_pg (c : F.J) : PG (F.X c) tg (gR F.X tg) := ⟨fun pins s σ H v u Q I r h => h c pins s u I r⟩
theorem name_to (hn : F.nm = nm) {v : Bool} (h : nm[i]? = some (x, v, true)) (c : F.J) : PG (F.X c) (.Name x p) (gName i) := by
  subst hn
  have C := F.ok c
  obtain ⟨l1, l2⟩ := C.loc i x v h
  exact pg_name (by rw [C.eN]; exact C.nd) (by rw [C.eN]; exact nm_name h) l1 l2
theorem wg_name (hn : F.nm = nm) {d : D} {Pg : Gam → Prop} {sl : List Sl} (h : PutV nm G.sl x i (.pu d) sl) (k : Pg { G with sl := sl }) : WG F B (.Name x p) [i] d G Pg := by
  intro σ P H v Q hh r hq
  obtain ⟨⟨l, q⟩, rfl, hl⟩ := h.at
  intro c pins s u I rv
  refine (name_to hn q c).run pins s σ H v u Q I rv ?_
  exact hq _ _ P H k (hh.set r hl) Ex.rfl fun vs hv => wipe_set (hv i List.mem_cons_self)
/-! for -/
theorem walk_item {K : PySem.W.Frag} {σ : L2.St} {P1 P H H' : Hp} {ds : List D} {j : Nat} {v : V} (hh : Holds K B G σ P H) (x1 : Ex P1 P) (y : ∃ d, ds[j]? = some d ∧ ((H' = H ∧ Rp K P1 v d) ∨ ∃ T vs es, v = .ref T ∧ H T = none ∧ H' = upd H T (.tup vs) ∧ d = .tup es ∧ RpL K P1 vs es)) :
    ∃ d P', ds[j]? = some d ∧ Holds K B G σ P' H' ∧ Ex P P' ∧ Rp K P' v d := by
  obtain ⟨d, hd, ⟨rfl, r⟩ | ⟨T, vs, es, rfl, hT, rfl, rfl, rl⟩⟩ := y
  · exact ⟨d, P, hd, hh, Ex.rfl, r.mono x1⟩
  · obtain ⟨h2, x2⟩ := hh.newP (o := .tup vs) hT
    exact ⟨_, _, hd, h2, x2, .tup (.inl (.inl upd_same)) (rl.mono (x1.trans x2))⟩
theorem ws_for {js : List Nat} (hc : F.cm = true) (hs : ∀ env x, foldedSetIterable iter env x = pure x)
    (h : WI F B tg iter G (fun ds G1 => ∃ I : Nat → Gam → Prop, I 0 G1 ∧ (∀ B' j d G', ds[j]? = some d → I j G' → WG F B' tg js d G' (fun G2 => WSs F B' body G2 { nx := I (j + 1), ct := I (j + 1), bk := N.nx, rt := N.rt, er := N.er })) ∧ (∀ G', I ds.length G' → N.nx G')) N.er) :
    WS F B (.For tg iter body [] pos) G N := by
  intro σ P H D hh hn ht hb hcc hr
  refine of_ps (fun c => ps_for (by rw [(F.ok c).eP, (F.ok c).ew]; exact (F.ok c).po hc) ((F.ok c).calm.trans hc) (iR_pi c) (gR_pg c) (ssR_pss c) (hs _)) ?_
  refine h σ P H _ hh (fun ds G1 J P1 H1 w1 h1 x1 wk => ?_) (fun C fs G' a P' H' => hr C fs G' a σ P' H')
  obtain ⟨I, i0, it, id⟩ := w1
  obtain ⟨Gc, Y, W, gc, yy⟩ := wk
  refine for_it W (fun j σ' H' => ∃ G' P', I j G' ∧ Holds F.K (B.at P1) G' σ' P' H') ⟨G1, P1, i0, h1.rebase⟩ (fun j σ' H' _ ⟨G', P', _, h'⟩ => gc H' (Ex.trans h'.p0 h'.ex)) ?_ ?_
  · rintro j v σ' H' H'' hj ⟨G', P', ij, h'⟩ y
    obtain ⟨d, P2, hd, h2, x2, r2⟩ := walk_item h' h'.p0 (yy j H' v H'' hj y)
    refine it (B.at P1) j d G' hd ij σ' P2 H'' v _ h2 r2 fun G3 σ3 P3 H3 k3 h3 x3 _ => ?_
    exact k3 σ3 P3 H3 _ h3 (fun G4 σ4 P4 H4 k4 h4 => ⟨G4, P4, k4, h4⟩) (fun d G4 v σ4 P4 H4 k4 h4 r4 => ht d G4 v σ4 P4 H4 k4 (h1.unbase h4) r4) (fun G4 σ4 P4 H4 k4 h4 => hn G4 σ4 P4 H4 k4 (h1.unbase h4)) (fun G4 σ4 P4 H4 k4 h4 => ⟨G4, P4, k4, h4⟩) (fun C fs G4 a σ4 P4 H4 k4 h4 => hr C fs G4 a σ4 P4 H4 k4 (HoldsX.unbase h1 h4))
  · rintro σ' H' ⟨G', P', ij, h'⟩
    exact hn G' σ' P' H' (id G' ij) (h1.unbase h')
/-! what is walked -/
theorem walk_seqL {K : PySem.W.Frag} {P1 : Hp} {q : Addr} {vs : List V} {ds : List D} (s : SqL K P1 q vs) (r : RpL K P1 vs ds) : WalkD K (Itl K q) P1 ds := by
  refine ⟨fun H => SqL K H q vs, YAt vs, r.length ▸ walk_list, fun H x => x.sqL s, fun i H x H' hi y => ?_⟩
  obtain ⟨e, y⟩ := y
  obtain ⟨d, h1, h2⟩ := r.get y
  exact ⟨d, h1, .inl ⟨e, h2⟩⟩
theorem walk_seqT {K : PySem.W.Frag} {P1 : Hp} {q : Addr} {vs : List V} {ds : List D} (s : SqT K P1 q vs) (r : RpL K P1 vs ds) : WalkD K (Itt K q) P1 ds := by
  refine ⟨fun H => SqT K H q vs, YAt vs, r.length ▸ walk_tup, fun H x => x.sqT s, fun i H x H' hi y => ?_⟩
  obtain ⟨e, y⟩ := y
  obtain ⟨d, h1, h2⟩ := r.get y
  exact ⟨d, h1, .inl ⟨e, h2⟩⟩
/-- a list or a tuple -/
inductive SeqD : D → List D → Prop
  | lst (xs : List D) : SeqD (.lst xs) xs
  | tup (xs : List D) : SeqD (.tup xs) xs
theorem it_list {X : Cx} {pins : List (Addr × Obj)} {σ : L2.St} {H : Hp} {s : Shared} {R : It → Hp → Prop} {E : Value → Shared → Prop} {q : Addr} {vs : List V} (I : Inv X pins σ H s) (hq : SqL X.K H q vs) (r : R (Itl X.K q) H) :
    wpAny (model X.prog X.w) X.A (pyIter (.ref q)) (PIE X pins σ tg R) E s := by
  obtain ⟨items, _, pl, _⟩ := I.list hq
  have fp : FpOk X pins H s.heap.objs.size := I.fpOk (Nat.le_refl _) (I.hok.fresh (Nat.le_refl _))
  refine wpAny_pyIter_list pl.isList ⟨s.heap.objs.size, [s.heap.objs.size], _, Itl X.K q, H, rfl, I.kept (t' := s.toks) (fun b o e => Heap.get?_push_of_some _ e), turn_list q _, ?_, ?_, r⟩
  · exact ⟨_, Heap.get?_push_size _ rfl, rfl, rfl⟩
  · intro b hb
    rw [List.mem_singleton.mp hb]
    exact fp
theorem it_tup {X : Cx} {pins : List (Addr × Obj)} {σ : L2.St} {H : Hp} {s : Shared} {R : It → Hp → Prop} {E : Value → Shared → Prop} {q : Addr} {vs : List V} (I : Inv X pins σ H s) (hq : SqT X.K H q vs) (r : R (Itt X.K q) H) :
    wpAny (model X.prog X.w) X.A (pyIter (.ref q)) (PIE X pins σ tg R) E s := by
  obtain ⟨items, _, pl, _⟩ := I.tuple hq
  have fp : FpOk X pins H s.heap.objs.size := I.fpOk (Nat.le_refl _) (I.hok.fresh (Nat.le_refl _))
  have tp : s.heap.IsTuple q items.toArray := pl
  refine wpAny_pyIter_tuple tp ⟨s.heap.objs.size, [s.heap.objs.size], _, Itt X.K q, H, rfl, I.kept (t' := s.toks) (fun b o e => Heap.get?_push_of_some _ e), turn_tuple q _, ?_, ?_, r⟩
  · exact ⟨_, Heap.get?_push_size _ rfl, rfl, rfl⟩
  · intro b hb
    rw [List.mem_singleton.mp hb]
    exact fp
theorem wi_seq {Pw : List D → Gam → Prop} (h : WE F B iter G (fun d G1 => ∃ ds, SeqD d ds ∧ Pw ds G1) Er) : WI F B tg iter G Pw Er := by
  intro σ P H R hh hq hr c pins s I
  have C := F.ok c
  refine thn (h σ P H (fun v H1 => ∃ q vs, v = .ref q ∧ ((SqL F.K H1 q vs ∧ R (Itl F.K q) H1) ∨ (SqT F.K H1 q vs ∧ R (Itt F.K q) H1))) hh (fun d G1 v P1 H1 w1 h1 x1 r1 => ?_) hr c pins s I) fun u s1 ⟨v, H1, I1, rv, q, vs, ev, w⟩ => ?_
  · obtain ⟨ds, sd, k⟩ := w1
    cases sd with
    | lst _ =>
      cases r1 with
      | lst s1 rl => exact ⟨_, _, rfl, .inl ⟨h1.ex.sqL s1, hq ds G1 _ P1 H1 k h1 x1 (walk_seqL s1 rl)⟩⟩
    | tup _ =>
      cases r1 with
      | tup s1 rl => exact ⟨_, _, rfl, .inr ⟨h1.ex.sqT s1, hq ds G1 _ P1 H1 k h1 x1 (walk_seqT s1 rl)⟩⟩
  · subst ev
    cases rv
    rcases w with ⟨sq, r⟩ | ⟨sq, r⟩
    · rw [← C.eK] at sq r
      exact it_list I1 sq r
    · rw [← C.eK] at sq r
      exact it_tup I1 sq r
theorem walk_ints {K : PySem.W.Frag} {P1 : Hp} {lo : Int} {n : Nat} : WalkD K (Itr lo n) P1 ((List.range n).map fun i => D.int (lo + (i : Nat))) := by
  refine ⟨fun _ => True, YFn fun i => .int (lo + (i : Nat)), ?_, fun _ _ => trivial, fun i H x H' hi y => ?_⟩
  · rw [List.length_map, List.length_range]
    exact walk_range
  · obtain ⟨e, rfl⟩ := y
    rw [List.length_map, List.length_range] at hi
    exact ⟨.int (lo + (i : Nat)), by simp [hi], .inl ⟨e, .int _⟩⟩
/-- range(a) -/
theorem wi_range1 {Pw : List D → Gam → Prop} (hm : F.mg "range" = none) (hg : ("range" : Str) ∈ F.gl) (hs : ∀ env, starEach [a] env = [(false, eval a env)])
    (h : WA F B [a] G (fun as G1 => ∃ n : Int, as = [.pu (.int n)] ∧ n ≤ 100000 ∧ 0 ≤ n ∧ Pw ((List.range n.toNat).map fun i => D.int (i : Nat)) G1) Er) : WI F B tg (.Call (.Name "range" p) [a] [] pos) G Pw Er := by
  intro σ P H R hh hq hr
  refine of_pi (fun c => pi_range1 ((F.ok c).glo _ hg) (by rw [(F.ok c).emg]; exact hm) (aR_pa c) (hs _)) ?_
  refine h σ P H _ hh (fun as G1 vs P1 H1 w1 h1 x1 r1 => ?_) hr
  obtain ⟨n, rfl, b1, b2, k⟩ := w1
  cases r1 with
  | cons r1 r2 =>
    cases r2
    cases r1 with
    | pu r1 =>
      cases r1
      refine ⟨n, rfl, by omega, by omega, ?_⟩
      have wk := walk_ints (K := F.K) (P1 := P1) (lo := 0) (n := n.toNat)
      refine hq _ G1 _ P1 H1 k h1 x1 ?_
      simpa using wk
end
end TV
/-! Comprehensions; a def's promise by its body. -/
namespace TV
open PySem PySem.Spec PyProof.Rows L2
def visB (sc : Scope) (x : Str) : Bool := match sc.names.lookup x with
  | some .local => true
  | some .cell => true
  | some .free => true
  | _ => false
def locB (fn : Bool) (sc : Scope) (x : Str) : Bool := match sc.names.lookup x with
  | some .local => true
  | some .cell => fn
  | _ => false
def gloB (sc : Scope) (x : Str) : Bool := match sc.names.lookup x with
  | some .globalImplicit => true
  | _ => false
def nmB (fn : Bool) (sc : Scope) (nm : Nms) : Bool := nm.all fun e => (!e.2.1 || visB sc e.1) && (!e.2.2 || locB fn sc e.1) && (!(e.1 == ("__debug__" : Str)) && !(e.1 == ("__classdict__" : Str)))
def glB (sc : Scope) (gl : List Str) : Bool := gl.all (gloB sc)
theorem nmB_at {fn : Bool} {sc : Scope} {nm : Nms} (h : nmB fn sc nm = true) {i : Nat} {e : Str × Bool × Bool} (q : nm[i]? = some e) : ((!e.2.1 || visB sc e.1) && (!e.2.2 || locB fn sc e.1) && (!(e.1 == ("__debug__" : Str)) && !(e.1 == ("__classdict__" : Str)))) = true :=
  List.all_eq_true.mp h e (List.mem_of_getElem? q)
theorem visB_ok {sc : Scope} {x : Str} (h : visB sc x = true) : Vis sc x := by
  unfold visB at h
  split at h
  · exact .inl (by assumption)
  · exact .inr (.inl (by assumption))
  · exact .inr (.inr (by assumption))
  · cases h
theorem locB_ok {fn : Bool} {sc : Scope} {x : Str} (h : locB fn sc x = true) : Loc sc x ∧ (fn = true ∨ sc.names.lookup x = some .local) := by
  unfold locB at h
  split at h
  · exact ⟨.inl (by assumption), .inr (by assumption)⟩
  · exact ⟨.inr (by assumption), .inl h⟩
  · cases h
theorem gloB_ok {sc : Scope} {x : Str} (h : gloB sc x = true) : sc.names.lookup x = some .globalImplicit := by
  unfold gloB at h
  split at h
  · assumption
  · cases h
theorem nmB_vis {fn : Bool} {sc : Scope} {nm : Nms} (h : nmB fn sc nm = true) (i : Nat) (x : Str) (l : Bool) (q : nm[i]? = some (x, true, l)) : Vis sc x := by
  have z := nmB_at h q
  simp only [Bool.not_true, Bool.false_or, Bool.and_eq_true] at z
  exact visB_ok z.1.1
theorem nmB_loc {fn : Bool} {sc : Scope} {nm : Nms} (h : nmB fn sc nm = true) (i : Nat) (x : Str) (v : Bool) (q : nm[i]? = some (x, v, true)) : Loc sc x ∧ (fn = true ∨ sc.names.lookup x = some .local) := by
  have z := nmB_at h q
  simp only [Bool.not_true, Bool.false_or, Bool.and_eq_true] at z
  exact locB_ok z.1.2
theorem nmB_db {fn : Bool} {sc : Scope} {nm : Nms} (h : nmB fn sc nm = true) (i : Nat) (e : Str × Bool × Bool) (q : nm[i]? = some e) : (e.1 == ("__debug__" : Str)) = false ∧ (e.1 == ("__classdict__" : Str)) = false := by
  have z := nmB_at h q
  simp only [Bool.and_eq_true, Bool.not_eq_true'] at z
  exact z.2
theorem glB_ok {sc : Scope} {gl : List Str} (h : glB sc gl = true) (x : Str) (hx : x ∈ gl) : sc.names.lookup x = some .globalImplicit := gloB_ok (List.all_eq_true.mp h x hx)

section
variable {F : Fm} {B : Bs} {G : Gam} {Er : ErE} {Po : Ob → Gam → Prop} {scope : Scope} {nm nm' : Nms} {gl' : List Str} {own : List (Str × Nat)} {tg iter elt : Expr} {ifs : List Expr} {js : List Nat} {pos : Pos}
end
end TV
/-! Comprehensions as expressions and stored; a def's promise by its body; operations on data. -/
namespace TV
open PySem PySem.Spec PyProof.Rows L2
section
variable {F : Fm} {B : Bs} {G : Gam} {Er : ErE} {Po : Ob → Gam → Prop} {scope : Scope} {nm nm' : Nms} {gl' : List Str} {own : List (Str × Nat)} {tg iter elt : Expr} {ifs : List Expr} {js : List Nat} {pos spos py : Pos} {N : En} {x : Str} {i : Nat}
end
/-! ### a def's promise by its body -/
def slots : List Arg → Nat → List Sl
  | [], _ => []
  | .pu d :: r, k => .pu d :: slots r k
  | .ar _ :: r, k => .ar k :: slots r (k + 1)
def obsOf : List Arg → List Ob
  | [] => []
  | .pu _ :: r => obsOf r
  | .ar o :: r => o :: obsOf r
def G0 (nm : Nms) (args : List Arg) : Gam := ⟨slots args 0 ++ List.replicate (nm.length - args.length) .no, obsOf args⟩
def endOf (Po : D → List Ob → Prop) (Er : Addr → Fs → List Ob → Prop) : En := { nx := fun G => Po .non G.ar, rt := fun d G => Po d G.ar, er := fun C fs G => Er C fs G.ar }
theorem slots_len : ∀ (args : List Arg) (k : Nat), (slots args k).length = args.length
  | [], _ => rfl
  | .pu _ :: r, k => congrArg (· + 1) (slots_len r k)
  | .ar _ :: r, k => congrArg (· + 1) (slots_len r (k + 1))
theorem slots_ok {K : PySem.W.Frag} {P H P0 H0 : Hp} : ∀ {vs : List V} {args : List Arg} {A A0 : List Addr}, ArgsOk K P H vs args A → SlsOk K ⟨A0 ++ A, P0, H0, []⟩ P H (vs.map some) (slots args A0.length) []
  | _, _, _, _, .nil => .nil
  | _, _, _, A0, .pu r h => .cons (m := []) (M := []) (.pu r) (slots_ok h)
  | _, _, _, A0, .ar (p := p) (A := A) n o h => by
    refine .cons (m := []) (M := []) (.ar (by simp)) ?_
    have q := slots_ok (P0 := P0) (H0 := H0) (A0 := A0 ++ [p]) h
    rw [List.append_assoc, List.length_append] at q
    exact q
theorem obs_ok {K : PySem.W.Frag} {P H : Hp} : ∀ {vs : List V} {args : List Arg} {A : List Addr}, ArgsOk K P H vs args A → ArOk K P H A (obsOf args)
  | _, _, _, .nil => .nil fun o h => (by cases h)
  | _, _, _, .pu (as := as) _ h => show ArOk K P H _ (obsOf as) from obs_ok h
  | _, _, _, .ar n o h => .cons n o (obs_ok h)
theorem args_norg {K : PySem.W.Frag} {P H : Hp} : ∀ {vs : List V} {args : List Arg} {A : List Addr}, ArgsOk K P H vs args A → regV (obsOf args) = [] ∧ regS (obsOf args) = []
  | _, _, _, .nil => ⟨rfl, rfl⟩
  | _, _, _, .pu (as := as) _ h => show regV (obsOf as) = [] ∧ regS (obsOf as) = [] from args_norg h
  | _, _, _, .ar (as := as) (o := o) n ob h => by
    obtain ⟨h1, h2⟩ := args_norg h
    refine ⟨?_, ?_⟩
    · show List.filterMap regV1 (o :: obsOf as) = []
      rw [List.filterMap_cons_none ob.norg.2]
      exact h1
    · show List.filterMap regS1 (o :: obsOf as) = []
      rw [List.filterMap_cons_none ob.norg.1]
      exact h2
theorem args_some {K : PySem.W.Frag} {P H : Hp} : ∀ {vs : List V} {args : List Arg} {A : List Addr}, ArgsOk K P H vs args A → ∀ p, p ∈ A → H p ≠ none
  | _, _, _, .nil, _, h => by cases h
  | _, _, _, .pu _ h, p, hp => args_some h p hp
  | _, _, _, .ar _ o h, p, hp => (List.mem_cons.mp hp).elim (fun e => e ▸ o.some) (args_some h p)
theorem nos_ok {K : PySem.W.Frag} {B : Bs} {P H : Hp} : ∀ n : Nat, SlsOk K B P H (List.replicate n none) (List.replicate n .no) []
  | 0 => .nil
  | n + 1 => .cons (m := []) (M := []) .no (nos_ok n)
theorem sls_app {K : PySem.W.Frag} {B : Bs} {P H : Hp} {σ' : L2.St} {l' : List Sl} (h' : SlsOk K B P H σ' l' []) : ∀ {σ : L2.St} {l : List Sl} {M : List Addr}, SlsOk K B P H σ l M → M = [] → SlsOk K B P H (σ ++ σ') (l ++ l') []
  | _, _, _, .nil, _ => h'
  | _, _, _, .cons a r, e => by
    obtain ⟨e1, e2⟩ := List.append_eq_nil_iff.mp e
    subst e1
    exact .cons (m := []) (M := []) a (sls_app h' r e2)
theorem start_holds {K : PySem.W.Frag} {P H : Hp} {vs : List V} {args : List Arg} {A : List Addr} {nm : Nms} (a : ArgsOk K P H vs args A) (nd : A.Nodup) (x : Ex P H) : Holds K ⟨A, P, H, []⟩ (G0 nm args) (L2.start (nm.map (·.1)) vs) P H := by
  have el := a.length
  refine ⟨⟨[], ?_, List.nodup_nil⟩, ?_, obs_ok a, nd, args_some a, x, Ex.rfl, fun _ _ _ h => h, fun b h1 h2 => absurd h1 h2⟩
  · obtain ⟨g1, g2⟩ := args_norg a
    unfold L2.start G0 tmV tmS
    simp only [List.map_nil, List.append_nil, List.length_map, g1, g2]
    rw [el]
    exact sls_app (nos_ok _) (slots_ok (A0 := []) a) rfl
  · unfold L2.start G0
    simp only [List.length_append, List.length_map, List.length_replicate, slots_len]
    rw [el]
theorem fn_ok {P : Program} {w : World} {K : PySem.W.Frag} {mg : Str → Option Value} {base : Heap} {x qual : Str} {st : Stmt} {f : Addr} {fd : FuncData} {ps : List Str} {nm : Nms} {gl : List Str} {k n : Nat} {T : PT}
    (F0 : L2.Fun K x qual st f fd) (S : FnScope (nm.map (·.1)) ps (defScope st)) (hnm : nmB true (defScope st) nm = true) (hgl : glB (defScope st) gl = true) (hn : ps.length = n)
    (body : ∀ (J : Type) (X : J → Cx) (W : WX) (ok : ∀ c, CxIs P w K mg base (defScope st) nm gl W k true true (X c)) (B : Bs) (args : List Arg) (Po : D → List Ob → Prop) (Er : Addr → Fs → List Ob → Prop), T args Po Er → args.length = n →
      WSs ⟨J, X, P, w, K, mg, base, defScope st, nm, gl, W, k, true, true, ok⟩ B (defBody st) (G0 nm args) (endOf Po Er)) :
    FnOk P w K mg base (L2.CX P w) (k + 1) f fd ps (spOf K T n) := by
  refine F0.okX S (fun vs H Q E h => ?_) (fun cdv A outer s H vs Q E hr h => ?_)
  · obtain ⟨_, _, _, _, _, hl, _⟩ := h
    rw [hl, hn]
  · obtain ⟨args, AA, P0, Po, Er, hl, ao, nd, ex, t, q1, q2⟩ := h
    have ok : ∀ c : Unit, CxIs P w K mg base (defScope st) nm gl (fun cls d _ H => E cls d H) k true true (cxOf (L2.CX P w) P w K mg base (nm.map (·.1)) qual (defScope st) f cdv A outer s H E) := fun _ =>
      ⟨rfl, rfl, rfl, rfl, rfl, rfl, rfl, nmB_vis hnm, fun i x v q => ⟨(nmB_loc hnm i x v q).1, .inl rfl⟩, nmB_db hnm, S.nd, fun x hx => glB_ok hgl x hx, takes_of rfl rfl rfl rfl, rfl, fun _ => hr, by have := hr.un; show (A.deeper (envOfC qual (defScope st) s.heap.objs.size f cdv)).units + 200 < cLine; omega, fun _ => passes_of rfl, fun _ => ⟨rfl, rfl⟩⟩
    refine ⟨_, ssR_pss (X := fun _ : Unit => _) (), ?_⟩
    refine body Unit (fun _ => _) _ ok ⟨AA, P0, H, []⟩ args Po Er t (ao.length ▸ hl) (L2.start (nm.map (·.1)) vs) P0 H _ (start_holds ao nd ex) ?_ ?_ ?_ ?_ ?_
    · intro G' σ' P' H' k' h'
      exact q1 .non G'.ar .non P' H' G'.sl σ' k' h' .non
    · intro d G' v σ' P' H' k' h' r
      exact q1 d G'.ar v P' H' G'.sl σ' k' h' r
    · intro _ _ _ _ z; exact z.elim
    · intro _ _ _ _ z; exact z.elim
    · intro C fs G' a σ' P' H' k' h'
      exact q2 C fs G'.ar a P' H' G'.sl σ' k' h'
end TV
/-! Operations on data. -/
namespace TV
open PySem PySem.Spec PyProof.Rows L2
section
variable {F : Fm} {B : Bs} {G : Gam} {Po : PoE} {Er : ErE} {i j : Int}
theorem op_of {f : Value → Value → Sem Value} {r : R2} {d1 d2 : D} (h : ∀ c, OpR (F.X c) f r) (k : ∀ σ P H x y Q, Holds F.K B G σ P H → Rp F.K P x d1 → Rp F.K P y d2 → (∀ d G' v P' H', Po d G' → Holds F.K B G' σ P' H' → Ex P P' → Rp F.K P' v d → Q v H') → r x y H Q) : Op F B f d1 d2 G Po :=
  fun σ P H x y Q hh r1 r2 hq => of_op h (k σ P H x y Q hh r1 r2 hq)
theorem op_I0 {f : Value → Value → Sem Value} {g : Int → Int → V} {d : D} (h : ∀ c, OpR (F.X c) f (rI0 g)) (hd : ∀ P, Rp F.K P (g i j) d) (k : Po d G) : Op F B f (.int i) (.int j) G Po :=
  op_of h fun σ P H x y Q hh r1 r2 hq => by cases r1; cases r2; exact ⟨i, j, rfl, rfl, hq d G _ P H k hh Ex.rfl (hd P)⟩
theorem op_I {f : Value → Value → Sem Value} {C : Int → Int → Prop} {g : Int → Int → V} {d : D} (h : ∀ c, OpR (F.X c) f (rI C g)) (hc : C i j) (hd : ∀ P, Rp F.K P (g i j) d) (k : Po d G) : Op F B f (.int i) (.int j) G Po :=
  op_of h fun σ P H x y Q hh r1 r2 hq => by cases r1; cases r2; exact ⟨i, j, rfl, rfl, hc, hq d G _ P H k hh Ex.rfl (hd P)⟩
theorem o_add (k : Po (.int (i + j)) G) : Op F B (binaryOp .Add) (.int i) (.int j) G Po := op_I0 (fun _ => op_add) (fun _ => .int _) k
theorem o_sub (k : Po (.int (i - j)) G) : Op F B (binaryOp .Sub) (.int i) (.int j) G Po := op_I0 (fun _ => op_sub) (fun _ => .int _) k
theorem o_mul (hc : CMul i j) (k : Po (.int (i * j)) G) : Op F B (binaryOp .Mult) (.int i) (.int j) G Po := op_I (fun _ => op_mul) hc (fun _ => .int _) k
theorem o_fdiv (hc : 0 < j ∧ j < 1073741824) (k : Po (.int (i / j)) G) : Op F B (binaryOp .FloorDiv) (.int i) (.int j) G Po := op_I (fun _ => op_fdiv) hc (fun _ => .int _) k
theorem o_mod (hc : 0 < j) (k : Po (.int (i % j)) G) : Op F B (binaryOp .Mod) (.int i) (.int j) G Po := op_I (fun _ => op_mod) hc (fun _ => .int _) k
theorem o_pow (hc : 0 ≤ j ∧ j ≤ 1000000 ∧ i.natAbs < 2 ^ 64) (k : Po (.int (i ^ j.toNat)) G) : Op F B (binaryOp .Pow) (.int i) (.int j) G Po := op_I (fun _ => op_pow) hc (fun _ => .int _) k
theorem o_shl (hc : 0 ≤ j ∧ j ≤ 1000000 ∧ i.natAbs < 2 ^ 64) (k : Po (.int (i * 2 ^ j.toNat)) G) : Op F B (binaryOp .LShift) (.int i) (.int j) G Po := op_I (fun _ => op_shl) hc (fun _ => .int _) k
theorem o_shr (hc : 0 ≤ j) (k : Po (.int (i / 2 ^ j.toNat)) G) : Op F B (binaryOp .RShift) (.int i) (.int j) G Po := op_I (fun _ => op_shr) hc (fun _ => .int _) k
theorem o_and (k : Po (.int (Builtin.bitAnd i j)) G) : Op F B (binaryOp .BitAnd) (.int i) (.int j) G Po := op_I0 (fun _ => op_and) (fun _ => .int _) k
theorem o_or (k : Po (.int (Builtin.bitOr i j)) G) : Op F B (binaryOp .BitOr) (.int i) (.int j) G Po := op_I0 (fun _ => op_or) (fun _ => .int _) k
theorem o_xor (k : Po (.int (Builtin.bitXor i j)) G) : Op F B (binaryOp .BitXor) (.int i) (.int j) G Po := op_I0 (fun _ => op_xor) (fun _ => .int _) k
theorem o_lt (k : Po (.bl (decide (i < j))) G) : Op F B (compareOp .Lt) (.int i) (.int j) G Po := op_I0 (fun _ => op_lt) (fun _ => .bl _) k
theorem o_le (k : Po (.bl (decide (i ≤ j))) G) : Op F B (compareOp .LtE) (.int i) (.int j) G Po := op_I0 (fun _ => op_le) (fun _ => .bl _) k
theorem o_gt (k : Po (.bl (decide (j < i))) G) : Op F B (compareOp .Gt) (.int i) (.int j) G Po := op_I0 (fun _ => op_gt) (fun _ => .bl _) k
theorem o_ge (k : Po (.bl (decide (j ≤ i))) G) : Op F B (compareOp .GtE) (.int i) (.int j) G Po := op_I0 (fun _ => op_ge) (fun _ => .bl _) k
theorem o_eqI (k : Po (.bl (decide (i = j))) G) : Op F B (compareOp .Eq) (.int i) (.int j) G Po :=
  op_of (fun _ => op_eq) fun σ P H x y Q hh r1 r2 hq => by
    cases r1; cases r2
    refine ⟨rfl, ?_⟩
    have e : decide (V.int i = V.int j) = decide (i = j) := by simp
    rw [e]
    exact hq _ G _ P H k hh Ex.rfl (.bl _)
theorem o_neI (k : Po (.bl (!decide (i = j))) G) : Op F B (compareOp .NotEq) (.int i) (.int j) G Po :=
  op_of (fun _ => op_ne) fun σ P H x y Q hh r1 r2 hq => by
    cases r1; cases r2
    refine ⟨rfl, ?_⟩
    have e : decide (V.int i = V.int j) = decide (i = j) := by simp
    rw [e]
    exact hq _ G _ P H k hh Ex.rfl (.bl _)
theorem o_eqS {x y : Str} (k : Po (.bl (decide (x = y))) G) : Op F B (compareOp .Eq) (.str x) (.str y) G Po :=
  op_of (fun _ => op_eq) fun σ P H v u Q hh r1 r2 hq => by
    cases r1; cases r2
    refine ⟨rfl, ?_⟩
    have e : decide (V.str x = V.str y) = decide (x = y) := by simp
    rw [e]
    exact hq _ G _ P H k hh Ex.rfl (.bl _)
theorem o_neS {x y : Str} (k : Po (.bl (!decide (x = y))) G) : Op F B (compareOp .NotEq) (.str x) (.str y) G Po :=
  op_of (fun _ => op_ne) fun σ P H v u Q hh r1 r2 hq => by
    cases r1; cases r2
    refine ⟨rfl, ?_⟩
    have e : decide (V.str x = V.str y) = decide (x = y) := by simp
    rw [e]
    exact hq _ G _ P H k hh Ex.rfl (.bl _)
def isNon : D → Bool
  | .non => true
  | _ => false
theorem isNon_ok {K : PySem.W.Frag} {P : Hp} {v : V} {d : D} (r : Rp K P v d) : decide (v = V.non) = isNon d := by
  cases r <;> simp [isNon]
theorem o_isN {d : D} (k : Po (.bl (isNon d)) G) : Op F B (compareOp .Is) d .non G Po :=
  op_of (fun _ => op_isN) fun σ P H v u Q hh r1 r2 hq => by
    cases r2
    refine ⟨rfl, ?_⟩
    rw [isNon_ok r1]
    exact hq _ G _ P H k hh Ex.rfl (.bl _)
theorem o_notN {d : D} (k : Po (.bl (!isNon d)) G) : Op F B (compareOp .IsNot) d .non G Po :=
  op_of (fun _ => op_notN) fun σ P H v u Q hh r1 r2 hq => by
    cases r2
    refine ⟨rfl, ?_⟩
    rw [isNon_ok r1]
    exact hq _ G _ P H k hh Ex.rfl (.bl _)
/-! == of plain data -/
mutual
def toPy : D → PyData
  | .non => .none
  | .bl b => .bool b
  | .int i => .int i
  | .str x => .str x
  | .ty _ => .none
  | .ref _ => .none
  | .emp => .none
  | .tux _ => .none
  | .ins _ _ => .none
  | .tup xs => .tuple (toPys xs)
  | .lst xs => .list (toPys xs)
def toPys : List D → List PyData
  | [] => []
  | x :: xs => toPy x :: toPys xs
end
mutual
/-- no object of a class in it, nor a class -/
def flatD : D → Bool
  | .non => true
  | .bl _ => true
  | .int _ => true
  | .str _ => true
  | .ty _ => false
  | .ref _ => false
  | .emp => false
  | .tux _ => false
  | .ins _ _ => false
  | .tup xs => flatDs xs
  | .lst xs => flatDs xs
def flatDs : List D → Bool
  | [] => true
  | x :: xs => flatD x && flatDs xs
end
mutual
theorem dp_of {K : PySem.W.Frag} {P H : Hp} (x : Ex P H) : ∀ (d : D) (v : V), Rp K P v d → flatD d = true → Dp K H v (toPy d)
  | .non, _, r, _ => by cases r; exact .non
  | .bl _, _, r, _ => by cases r; exact .bl _
  | .int _, _, r, _ => by cases r; exact .int _
  | .str _, _, r, _ => by cases r; exact .str _
  | .ty _, _, _, h => by simp [flatD] at h
  | .ref _, _, _, h => by simp [flatD] at h
  | .emp, _, _, h => by simp [flatD] at h
  | .tux _, _, _, h => by simp [flatD] at h
  | .ins _ _, _, _, h => by simp [flatD] at h
  | .tup ds, _, r, h => by
    cases r with
    | tup s rl => exact .tup (x.sqT s) (dps_of x ds _ rl (by simpa [flatD] using h))
  | .lst ds, _, r, h => by
    cases r with
    | lst s rl => exact .lst (x.sqL s) (dps_of x ds _ rl (by simpa [flatD] using h))
theorem dps_of {K : PySem.W.Frag} {P H : Hp} (x : Ex P H) : ∀ (ds : List D) (vs : List V), RpL K P vs ds → flatDs ds = true → DpAll K H vs (toPys ds)
  | [], _, r, _ => by cases r; exact .nil
  | d :: ds, _, r, h => by
    cases r with
    | cons r1 r2 =>
      simp only [flatDs, Bool.and_eq_true] at h
      exact .cons (dp_of x d _ r1 h.1) (dps_of x ds _ r2 h.2)
end
def okD (d : D) : Bool := flatD d && SeqAt.shaped (toPy d)
def eqD (d e : D) : Bool := PyData.eqv (toPy d) (toPy e)
theorem o_eqD {d e : D} (hd : okD d = true) (he : okD e = true) (k : Po (.bl (eqD d e)) G) : Op F B (compareOp .Eq) d e G Po := by
  unfold okD at hd he
  rw [Bool.and_eq_true] at hd he
  refine op_of (r := rEqD F.K) (fun c => ?_) fun σ P H x y Q hh r1 r2 hq => ⟨toPy d, toPy e, dp_of hh.ex d x r1 hd.1, dp_of hh.ex e y r2 he.1, hd.2, he.2, hq _ G _ P H k hh Ex.rfl (.bl _)⟩
  have C := F.ok c
  rw [← C.eK]
  exact op_eqD (by have := C.un; omega)
theorem o_neD {d e : D} (hd : okD d = true) (he : okD e = true) (k : Po (.bl (!eqD d e)) G) : Op F B (compareOp .NotEq) d e G Po := by
  unfold okD at hd he
  rw [Bool.and_eq_true] at hd he
  refine op_of (r := rNeD F.K) (fun c => ?_) fun σ P H x y Q hh r1 r2 hq => ⟨toPy d, toPy e, dp_of hh.ex d x r1 hd.1, dp_of hh.ex e y r2 he.1, hd.2, he.2, hq _ G _ P H k hh Ex.rfl (.bl _)⟩
  have C := F.ok c
  rw [← C.eK]
  exact op_neD (by have := C.un; omega)
/-! subscripts of lists and tuples -/
theorem at_rp {K : PySem.W.Frag} {P : Hp} {vs : List V} {ds : List D} {n : Int} {d : D} (r : RpL K P vs ds) (h : atI ds n = some d) : ∃ v, atI vs n = some v ∧ Rp K P v d := by
  unfold atI at h ⊢
  rw [r.length]
  cases e : ixN ds.length n with
  | none => rw [e] at h; cases h
  | some m =>
    rw [e] at h
    exact r.at h
theorem x_lst {xs : List D} {n : Int} {d : D} (h : atI xs n = some d) (k : Po d G) : Ix F B (.lst xs) (.int n) G Po := fun σ P H x y Q hh r1 r2 hq => by
  cases r2
  cases r1 with
  | lst s rl =>
    obtain ⟨v, hv, rv⟩ := at_rp rl h
    refine of_ix (r := rIxL F.K) (fun c => ?_) ⟨_, _, n, v, rfl, rfl, hh.ex.sqL s, hv, hq d G v P H k hh Ex.rfl rv⟩
    rw [← (F.ok c).eK]; exact ix_list
theorem x_tup {xs : List D} {n : Int} {d : D} (h : atI xs n = some d) (k : Po d G) : Ix F B (.tup xs) (.int n) G Po := fun σ P H x y Q hh r1 r2 hq => by
  cases r2
  cases r1 with
  | tup s rl =>
    obtain ⟨v, hv, rv⟩ := at_rp rl h
    refine of_ix (r := rIxT F.K) (fun c => ?_) ⟨_, _, n, v, rfl, rfl, hh.ex.sqT s, hv, hq d G v P H k hh Ex.rfl rv⟩
    rw [← (F.ok c).eK]; exact ix_tup
/-! calls of built-ins -/
theorem cb_of {f : Value} {r : List V → Hp → VK → Prop} {as : List AV} {ds : List D} (h : ∀ c, CallR (F.X c) f r) (u : Pus as ds) (k : ∀ σ P H xs Q, Holds F.K B G σ P H → RpL F.K P xs ds → (∀ d G' v P' H', Po d G' → Holds F.K B G' σ P' H' → Ex P P' → Rp F.K P' v d → Q v H') → r xs H Q) : Cb F B f as G Po Er :=
  fun σ P H xs Q hh av hq => of_cb h (k σ P H xs Q hh (u.ok av) hq)
theorem sq_of {K : PySem.W.Frag} {P H : Hp} {v : V} {d : D} {ds : List D} (x : Ex P H) (s : SeqD d ds) (r : Rp K P v d) : ∃ q vs, v = .ref q ∧ (SqL K H q vs ∨ SqT K H q vs) ∧ RpL K P vs ds := by
  cases s with
  | lst _ =>
    cases r with
    | lst s rl => exact ⟨_, _, rfl, .inl (x.sqL s), rl⟩
  | tup _ =>
    cases r with
    | tup s rl => exact ⟨_, _, rfl, .inr (x.sqT s), rl⟩
theorem c_len {d : D} {ds : List D} (s : SeqD d ds) (k : Po (.int ds.length) G) : Cb F B (.builtin "len") [.pu d] G Po Er := by
  refine cb_of (ds := [d]) (r := fun xs H Q => ∃ p ys, xs = [.ref p] ∧ (SqL F.K H p ys ∨ SqT F.K H p ys) ∧ Q (.int ys.length) H) (fun c => ?_) (.cons .nil) fun σ P H xs Q hh rl hq => ?_
  · rw [← (F.ok c).eK]; exact call_len_seq
  · cases rl with
    | cons r1 r2 =>
      cases r2
      obtain ⟨q, vs, rfl, sq, rv⟩ := sq_of hh.ex s r1
      refine ⟨q, vs, rfl, sq, ?_⟩
      rw [rv.length]
      exact hq _ G _ P H k hh Ex.rfl (.int _)
theorem c_int {n : Int} (k : Po (.int n) G) : Cb F B (.type "int") [.pu (.int n)] G Po Er := by
  refine cb_of (ds := [.int n]) (fun c => call_int1) (.cons .nil) fun σ P H xs Q hh rl hq => ?_
  cases rl with
  | cons r1 r2 =>
    cases r2; cases r1
    exact .inl ⟨n, rfl, hq _ G _ P H k hh Ex.rfl (.int _)⟩
/-- tuple(x) -/
theorem c_tuple {d : D} {ds : List D} (s : SeqD d ds) (k : Po (.tup ds) G) : Cb F B (.type "tuple") [.pu d] G Po Er := by
  refine cb_of (ds := [d]) (r := fun xs H Q => ∃ p ys, xs = [.ref p] ∧ ((SqL F.K H p ys ∧ ∀ l, H l = none → Q (.ref l) (upd H l (.tup ys))) ∨ (SqT F.K H p ys ∧ Q (.ref p) H))) (fun c => ?_) (.cons .nil) fun σ P H xs Q hh rl hq => ?_
  · rw [← (F.ok c).eK]; exact call_tuple_of
  · cases rl with
    | cons r1 r2 =>
      cases r2
      cases s with
      | lst _ =>
        cases r1 with
        | lst s rl =>
          refine ⟨_, _, rfl, .inl ⟨hh.ex.sqL s, fun l hl => ?_⟩⟩
          obtain ⟨h2, x2⟩ := hh.newP (o := .tup _) hl
          exact hq _ G _ _ _ k h2 x2 (.tup (.inl (.inl upd_same)) (rl.mono x2))
      | tup _ =>
        cases r1 with
        | tup s rl => exact ⟨_, _, rfl, .inr ⟨hh.ex.sqT s, hq _ G _ P H k hh Ex.rfl (.tup s rl)⟩⟩
/-- list(x) as a new list -/
theorem cr_list {d : D} {ds : List D} {σ : L2.St} {P H : Hp} {xs : List V} {Q : VK} (s : SeqD d ds) (hh : Holds F.K B G σ P H) (rl : RpL F.K P xs [d]) (hq : ∀ l vs, H l = none → RpL F.K P vs ds → Q (.ref l) (upd H l (.lst vs))) : cbR F.X (.type "list") xs H Q := by
  refine of_cb (r := fun xs H Q => ∃ p ys, xs = [.ref p] ∧ (SqL F.K H p ys ∨ SqT F.K H p ys) ∧ ∀ l, H l = none → Q (.ref l) (upd H l (.lst ys))) (fun c => ?_) ?_
  · rw [← (F.ok c).eK]; exact call_list_of
  · cases rl with
    | cons r1 r2 =>
      cases r2
      obtain ⟨q, vs, rfl, sq, rv⟩ := sq_of hh.ex s r1
      exact ⟨q, vs, rfl, sq, fun l hl => hq l vs hl rv⟩
theorem c_list {d : D} {ds : List D} (s : SeqD d ds) (k : Po (.lst ds) G) : Cb F B (.type "list") [.pu d] G Po Er := fun σ P H xs Q hh av hq => by
  refine cr_list s hh ((Pus.cons .nil).ok av) fun l vs hl rv => ?_
  obtain ⟨h2, x2⟩ := hh.newP (o := .lst vs) hl
  exact hq _ G _ _ _ k h2 x2 (.lst (.inl (.inl upd_same)) (rv.mono x2))
/-! isinstance -/
/-- the class of data (not of instances) -/
def tyD : D → Option String
  | .non => some "NoneType"
  | .bl _ => some "bool"
  | .int _ => some "int"
  | .str _ => some "str"
  | .tup _ => some "tuple"
  | .lst _ => some "list"
  | .emp => some "dict"
  | _ => none
theorem tyD_ok {K : PySem.W.Frag} {P H : Hp} {v : V} {d : D} {T : String} (x : Ex P H) (r : Rp K P v d) (h : tyD d = some T) : TyX K H v (.type T) := by
  cases r with
  | non => cases h; exact .base .non
  | bl b => cases h; exact .base (.bl b)
  | int i => cases h; exact .base (.int i)
  | str z => cases h; exact .base (.str z)
  | ty n => cases h
  | ref a => cases h
  | emp e => cases h; exact .base (.dK (x _ _ e))
  | tux _ _ _ => cases h
  | ins _ _ => cases h
  | tup s _ =>
    cases h
    rcases x.sqT s with (s | ⟨o, s⟩) | ⟨o, _, _, s, c, _⟩
    · exact .base (.tup s)
    · exact .fTuple s
    · exact .kTuple s c
  | lst s _ =>
    cases h
    rcases x.sqL s with (s | ⟨o, s⟩) | ⟨o, _, _, s, c, _⟩
    · exact .base (.lst s)
    · exact .base (.frz s)
    · exact .kList s c
theorem c_isTy {d : D} {T U : String} {b : Bool} (ht : tyD d = some T) (hk : kitB T U = some b) (k : Po (.bl b) G) : Cb F B (.builtin "isinstance") [.pu d, .pu (.ty U)] G Po Er := by
  refine cb_of (ds := [d, .ty U]) (r := rIsi F.K) (fun c => ?_) (.cons (.cons .nil)) fun σ P H xs Q hh rl hq => ?_
  · rw [← (F.ok c).eK]; exact call_isi
  · cases rl with
    | cons r1 r2 =>
      cases r2 with
      | cons r2 r3 =>
        cases r3; cases r2
        exact ⟨_, _, _, _, b, rfl, .ty U, tyD_ok hh.ex r1 ht, kit_ty hk, hq _ G _ P H k hh Ex.rfl (.bl b)⟩
end
section
variable {F : Fm} {B : Bs} {G : Gam} {Po : PoE} {Er : ErE} {nm : Nms} {x : Str} {i : Nat} {p pos apos : Pos} {e : Expr} {es : List Expr} {N : En}
/-- x.append(e), x a list of one's own -/
theorem we_append (hn : F.nm = nm) {xs : List D} (hl : LookV nm G.sl x i (.ow (.lst xs))) (hsz : xs.length < 100000) (hbase : ∀ env, attributeBase (.Name x p) "append" env (eval (.Name x p) env) = eval (.Name x p) env)
    (hfew : ∀ env, ((backTo pos (starEach [e] env)).all (fun x => !x.1) && (backToKw pos (keywordEach [] env)).all (fun x => x.1.isSome) && decide ([e].length + ([] : List Keyword).length + (if ([] : List Keyword).isEmpty then 0 else 1) < 30)) = true)
    (hline : (apos.endLine == pos.line) = true) (hs : ∀ env, starEach [e] env = (false, eval e env) :: starEach [] env) (hpl : ∀ env, (backTo pos (starEach [] env)).any (·.1) = false)
    (h : WE F B e G (fun d G1 => LookV nm G1.sl x i (.ow (.lst xs)) ∧ ∃ sl, SetS G1.sl i (.ow (.lst (xs ++ [d]))) sl ∧ Po .non { G1 with sl := sl }) Er) : WE F B (.Call (.Attribute (.Name x p) "append" apos) [e] [] pos) G Po Er := by
  intro σ P H Q hh hq hr
  refine of_pe (t := tBM F.K "list" rAppend (tVar i) (aR F.X [e])) (fun c => ?_) ?_
  · have q := pe_bm (X := F.X c) (o := .Name x p) (apos := apos) (cpos := pos) PySem.F.plainAttrs_list PySem.F.slot_list_append PySem.F.type_list_append mt_append (name_here (p := p) hn hl c) (aR_pa (es := [e]) c) (hbase _) (hfew _) hline (hs _) (hpl _)
    rw [(F.ok c).eK] at q
    exact q
  · obtain ⟨q, e0, _, _, o⟩ := hh.getO hl.at.2
    cases o with
    | lst hu rl =>
      refine ⟨_, e0, .inl ⟨rfl, _, .inl (.inl hu)⟩, ?_⟩
      have ha : WA F B [e] G (fun as G1 => ∃ d, as = [.pu d] ∧ LookV nm G1.sl x i (.ow (.lst xs)) ∧ ∃ sl, SetS G1.sl i (.ow (.lst (xs ++ [d]))) sl ∧ Po .non { G1 with sl := sl }) Er :=
        wa_cons hs (fun σ P H Q hh hq hr => h σ P H Q hh (fun d G' v P' H' k => hq d G' v P' H' (wa_nil ⟨d, rfl, k⟩)) hr)
      refine ha σ P H _ hh (fun as G1 vs P1 H1 w1 h1 x1 av => ?_) hr
      obtain ⟨d, rfl, l1, sl, pv, k⟩ := w1
      cases av with
      | cons a1 a2 =>
        cases a2
        cases a1 with
        | pu rd =>
          obtain ⟨q1, e1, _, _, o1⟩ := h1.getO l1.at.2
          rw [e0] at e1; cases e1
          cases o1 with
          | @lst us _ hu1 rl1 =>
            obtain rfl := pv.at
            refine ⟨q, us, _, rfl, rfl, hu1, by rw [rl1.length]; exact Nat.lt_of_lt_of_le hsz (by decide), ?_⟩
            exact hq .non _ .non P1 _ k (h1.chg l1.at.2 e0 (.lst upd_same (rl1.append (.one rd)))) x1 .non
end
end TV
/-! Errors: try with any clauses, named or not; raising. -/
namespace TV
open PySem PySem.Spec PyProof.Rows L2
section
variable {X : Cx} {pins : List (Addr × Obj)} {D : Ends} {Wout : WX}
end
end TV
/-! try .. except .., raise, over plain data. -/
namespace TV
open PySem PySem.Spec PyProof.Rows L2
/-- an except suite: a the error, cls its class, d its dict -/
def Fm.suite (F : Fm) (a : Addr) (cls : Value) (d : Option Addr) : Fm where
  J := { q : F.J × Obj × List (Addr × Obj) // Zc cls d q.2.1 ∧ ∃ vs, q.2.1.data = .fields vs }
  X := fun q => (F.X q.1.1).suite a ((a, q.1.2.1) :: q.1.2.2)
  P := F.P
  w := F.w
  K := F.K
  mg := F.mg
  base := F.base
  sc := F.sc
  nm := F.nm
  gl := F.gl
  W := fun _ _ _ _ => False
  lv := F.lv
  cm := false
  top := false
  ok := fun q => by
    have C := F.ok q.1.1
    exact ⟨C.eP, C.ew, C.eK, C.emg, C.eb, C.esc, C.eN, C.vis, C.loc, C.db, C.nd, C.glo, takes0, rfl, (fun z => Bool.noConfusion z), C.un, (fun z => Bool.noConfusion z), (fun z => Bool.noConfusion z)⟩
structure PCl where
  C : Addr
  sl : Option Nat
  su : List Stmt
section
variable {F : Fm} {B : Bs} {G : Gam} {N : En} {pos : Pos} {body : List Stmt} {h0 : ExceptHandler} {hds : List ExceptHandler} {l : List PCl}
end
end TV
/-! A caught error's fields; raising. -/
namespace TV
open PySem PySem.Spec PyProof.Rows L2
abbrev veB : List Value := [.type "ValueError", .type "Exception", .type "BaseException", .type "object"]
section
variable {F : Fm} {B : Bs} {G : Gam} {Po : PoE} {Er : ErE} {N : En} {nm : Nms} {x n f : Str} {i : Nat} {p pos pos2 : Pos} {e e1 e2 : Expr}
/-- n.f, n the caught error -/
theorem we_exf (hn : F.nm = nm) {a C dd : Addr} {fs : Fs} {v : D} (T : XfC F.K C) (hno : PySem.W.findIn F.K (.ref C) f = some none) (hl : LookV nm G.sl n i (.pu (.ref a))) (hv : fs.lookup f = some v) (hb : ∀ env, attributeBase (.Name n p) f env (eval (.Name n p) env) = eval (.Name n p) env) (k : Po v G) :
    WE (F.suite a (.ref C) (some dd)) (B.push dd (.xd fs)) (.Attribute (.Name n p) f pos) G Po Er := by
  intro σ P H Q hh hq hr
  refine of_pe (t := tXf a (.ref C) (some dd) C f (tVar i)) (fun c => ?_) ?_
  · have K1 := (F.ok c.1.1).eK
    exact pe_xf (X := F.X c.1.1) (by rw [K1]; exact T) (by rw [K1]; exact hno) c.2.1 c.2.2 (name_here (F := F.suite a (.ref C) (some dd)) hn hl c) (hb _)
  · obtain ⟨u, eu, ru⟩ := hh.get hl.at.2
    obtain ⟨_, _, _, ob, _⟩ := hh.popT
    have ea : u = .ref a := by
      cases ru
      rfl
    subst ea
    cases ob with
    | @xd us _ hu rf =>
      obtain ⟨w, lw, rw'⟩ := rf.look hv
      exact ⟨_, eu, rfl, rfl, dd, us, w, rfl, hu, lw, hq v G w P H k hh Ex.rfl rw'⟩
/-- an own error class without an __init__ -/
structure Exc0 (K : PySem.W.Frag) (mg : Str → Option Value) (x : Str) (C : Addr) : Prop where
  gC : mg x = some (.ref C)
  ex : PySem.W.excIn K C veB "ValueError.__new__" = true
  kC : PySem.W.keepIn K (.ref C) = true
  su : PySem.W.subIn K (.ref C) (.type "BaseException") = some true
  ty : PySem.W.typeIn K (.ref C) = some (.type "type")
  db : (x == ("__debug__" : Str)) = false
theorem pmk_none {X : Cx} {C : Addr} (T : Exc0 X.K X.mg x C) (hg : Gl X x) : PMk X (.Call (.Name x p) [] [] pos) (fun _ H Q => Q (.ref C) none H) := by
  intro pins s σ H Q I h
  refine wpAny_Call_Name_kw (ld_glob I hg T.gC ?_ T.db)
  refine PySem.W.callWith_K0 I.kIn T.kC ?_
  show wpAny _ _ (call (.ref C) []) _ _ _
  obtain ⟨bm, _, _, _, _, _, _, _, _, _, _, _, _, _, _, _, mN, hC, hN, hni, OT⟩ := exc_obj I.kIn T.ex
  refine wpAny_call_exc_subT F.excBase_ValueError OT hC hN hni (fun h' e hm => ?_) (Nat.zero_le _)
  exact mk_of I hm (raises_own T.su T.ty) h (I.hok.gone hm.new)
theorem ws_raise0 (hc : F.cm = true) {C : Addr} (T : Exc0 F.K F.mg x C) (hg : x ∈ F.gl) (k : N.er C [] G) : WS F B (.Raise (some (.Call (.Name x p) [] [] pos)) none pos2) G N := by
  intro σ P H D hh hn ht hb hcc hr
  refine of_ps (t := fun _ σ H => F.W (.ref C) none σ H) (fun c => ?_) (hr C [] G none σ P H k ⟨rfl, hh⟩)
  have Cx := F.ok c
  exact ps_raise (Cx.calm.trans hc) Cx.tk (pmk_none (by rw [Cx.eK, Cx.emg]; exact T) (Cx.glo x hg))
/-- an error class with fields that its __init__ stores in this order -/
def spEx (C : Addr) (fn : List Str) : Sp := fun vs H Q _ => ∃ (a : Addr) (ys : List V), vs = .ref a :: ys ∧ ys.length = fn.length ∧ H a = some (exo a C none) ∧ 
  ∀ dx H', H dx = none → dx ≠ a → H' a = some (exo a C (some dx)) → H' dx = some (exd dx (fn.zip ys).reverse) → (∀ b, b ≠ a → b ≠ dx → H' b = H b) → Q .non H'
structure ExcN (P : Program) (w : World) (K : PySem.W.Frag) (mg : Str → Option Value) (base : Heap) (x : Str) (C : Addr) (fn : List Str) : Prop where
  gC : mg x = some (.ref C)
  oe : OexC K C
  init : ∃ fI fd ps, PySem.W.findIn K (.ref C) "__init__" = some (some (.ref fI)) ∧ PySem.W.typeIn K (.ref fI) = some (.type "function") ∧ Binds K fd ps [] ∧ FnOk P w K mg base (L2.CX P w) 1 fI fd ps (spEx C fn)
  db : (x == ("__debug__" : Str)) = false
theorem rpf_zip {K : PySem.W.Frag} {P : Hp} : ∀ {fn : List Str} {vs : List V} {ds : List D}, RpL K P vs ds → RpF K P (fn.zip vs) (fn.zip ds)
  | [], _, _, _ => by simp; exact .nil
  | _ :: _, _, _, .nil => by simp; exact .nil
  | f :: fn, _, _, .cons h r => .cons h (rpf_zip r)
theorem rpf_app {K : PySem.W.Frag} {P : Hp} : ∀ {us vs : List (Str × V)} {fs gs : Fs}, RpF K P us fs → RpF K P vs gs → RpF K P (us ++ vs) (fs ++ gs)
  | _, _, _, _, .nil, s => s
  | _, _, _, _, .cons h r, s => .cons h (rpf_app r s)
theorem rpf_rev {K : PySem.W.Frag} {P : Hp} : ∀ {us : List (Str × V)} {fs : Fs}, RpF K P us fs → RpF K P us.reverse fs.reverse
  | _, _, .nil => .nil
  | _, _, .cons h r => by
    rw [List.reverse_cons, List.reverse_cons]
    exact rpf_app (rpf_rev r) (.cons h .nil)
theorem ws_raise {es : List Expr} {fn : List Str} (hc : F.cm = true) (hlv : 2 ≤ F.lv) {C : Addr} (T : ExcN F.P F.w F.K F.mg F.base x C fn) (hg : x ∈ F.gl) (he : ∀ env, starEach (e :: es) env = (false, eval e env) :: starEach es env) (hpl : ∀ env, (backTo pos (starEach es env)).any (·.1) = false)
    (h : WA F B (e :: es) G (fun as G1 => ∃ ds, Pus as ds ∧ ds.length = fn.length ∧ ds.length ≤ 1000 ∧ N.er C (fn.zip ds).reverse G1) N.er) : WS F B (.Raise (some (.Call (.Name x p) (e :: es) [] pos)) none pos2) G N := by
  obtain ⟨fI, fd, ps, iC, tI, hb0, ok⟩ := T.init
  intro σ P H D hh hn ht hb hcc hr
  refine of_ps (t := fun _ σ H => tMkO C (spEx C fn) [] (aR F.X (e :: es)) σ H fun cls d H' => F.W cls d σ H') (fun c => ?_) ?_
  · have Cx := F.ok c
    have ok' : FnOk (F.X c).prog (F.X c).w (F.X c).K (F.X c).mg (F.X c).base (L2.CX (F.X c).prog (F.X c).w) 1 fI fd ps (spEx C fn) := by
      rw [Cx.eP, Cx.ew, Cx.eK, Cx.emg, Cx.eb]; exact ok
    exact ps_raise (Cx.calm.trans hc) Cx.tk (pmk_oex (by rw [Cx.eK]; exact T.oe) (by rw [Cx.eK]; exact iC) (by rw [Cx.eK]; exact tI) ok' ((Cx.room hc).mono hlv) (by rw [Cx.eK]; exact hb0) .nil passL (Cx.glo x hg) (by rw [Cx.emg]; exact T.gC) (aR_pa c) T.db (he _) (hpl _))
  · refine h σ P H _ hh (fun as G1 vs P1 H1 w1 h1 x1 av => ?_) (fun C fs G' a P' H' => hr C fs G' a σ P' H')
    obtain ⟨ds, u, hl, hl2, k⟩ := w1
    have rl := u.ok av
    refine ⟨by rw [rl.length]; exact hl2, fun a ha => ?_⟩
    refine ⟨a, vs, by rw [List.append_nil], by rw [rl.length]; exact hl, upd_same, fun dx H2 hdx hne ea ed oth => ⟨rfl, dx, _, ea, ed, ?_, ?_⟩⟩
    · rw [upd_ne hne] at hdx; exact hdx
    · have hdx1 : H1 dx = none := by rw [upd_ne hne] at hdx; exact hdx
      have eH : upd (del H2 a) dx (.xd (fn.zip vs).reverse) = upd H1 dx (.xd (fn.zip vs).reverse) := by
        funext b
        by_cases q : b = dx
        · subst q; rw [upd_same, upd_same]
        · rw [upd_ne q, upd_ne q]
          by_cases q2 : b = a
          · subst q2; rw [del_same, ha]
          · rw [del_ne q2, oth b q2 q, upd_ne q2]
      rw [eH]
      exact hr C _ G1 (some dx) σ P1 _ k (h1.pushT hdx1 (.xd upd_same (rpf_rev (rpf_zip rl))))
end
section
variable {P : Program} {w : World} {K : PySem.W.Frag} {mg : Str → Option Value} {base : Heap} {C f : Addr} {fd : FuncData} {qual : Str} {st : Stmt}
end
end TV
/-! zip of three sequences, lists or tuples. -/
namespace TV
open PySem PySem.Spec PyProof.Rows L2
section
variable {prog : Program} {w : World} {A : Around} {E : Value → Shared → Prop} {s : Shared}
variable {n l1 l2 l3 : Nat} {k1 k2 k3 : Bool} {j : Nat} {xs ys zs : Array Value} {x y z a b c : Value}
end
end TV
/-! zip of three: made, walked. -/
namespace TV
open PySem PySem.Spec PyProof.Rows L2
section
variable {prog : Program} {w : World} {A : Around} {E : Value → Shared → Prop} {s : Shared}
end
section
variable {prog : Program} {w : World} {A : Around} {E : Value → Shared → Prop} {s : Shared}
end
/-! walked by a for or a comprehension -/
end TV
/-! for a, b, c in zip(x, y, z). -/
namespace TV
open PySem PySem.Spec PyProof.Rows L2
section
variable {F : Fm} {B : Bs} {G : Gam} {Er : ErE} {e1 e2 e3 : Expr} {p pos tpos : Pos} {elts : List Expr} {kk : Nat} {Pw : List D → Gam → Prop}
end
end TV
/-! The rules by what a family is: constants of the run, constants of the body. -/
namespace TV
open PySem PySem.Spec PyProof.Rows L2
structure Cn where
  P : Program
  w : World
  K : PySem.W.Frag
  mg : Str → Option Value
  base : Heap
structure Bd where
  nm : Nms
  gl : List Str
  sc : Scope
  lv : Nat
structure Is (F : Fm) (c : Cn) (b : Bd) (m : Bool) : Prop where
  eP : F.P = c.P
  ew : F.w = c.w
  eK : F.K = c.K
  em : F.mg = c.mg
  eb : F.base = c.base
  nm : F.nm = b.nm
  gl : F.gl = b.gl
  sc : F.sc = b.sc
  lv : F.lv = b.lv
  cm : F.cm = m
abbrev Dn (c : Cn) (k : Nat) (x : Str) (n : Nat) (T : PT) : Prop := Def1 c.P c.w c.K c.mg c.base k x n T
inductive PutG (G : Gam) : AV → Ob → Gam → Prop
  | hs {i : Nat} {o : Ob} {sl : List Sl} : SetS G.sl i (.ow o) sl → PutG G (.hs i) o ⟨sl, G.ar⟩
  | ha {k : Nat} {o : Ob} : PutG G (.ha k) o ⟨G.sl, G.ar.set k o⟩
structure Rs where
  rt : PoE
  bk : Gam → Prop
  ct : Gam → Prop
  er : ErE
def En.of (nx : Gam → Prop) (R : Rs) : En := ⟨nx, R.rt, R.bk, R.ct, R.er⟩
def XS (F : Fm) (B : Bs) (st : Stmt) (G : Gam) (nx : Gam → Prop) (R : Rs) : Prop := WS F B st G (En.of nx R)
def XSs (F : Fm) (B : Bs) (st : List Stmt) (G : Gam) (nx : Gam → Prop) (R : Rs) : Prop := WSs F B st G (En.of nx R)
def rsOf (Po : D → List Ob → Prop) (Er : Addr → Fs → List Ob → Prop) : Rs := ⟨fun d G => Po d G.ar, fun _ => False, fun _ => False, fun C fs G => Er C fs G.ar⟩
/-- arguments that are plain data -/
def WAP (F : Fm) (B : Bs) (es : List Expr) (G : Gam) (Po : List AV → Gam → Prop) (Er : ErE) : Prop := WA F B es G Po Er
/-- x is one of the names -/
inductive InL (x : Str) : List Str → Prop
  | here {r : List Str} : InL x (x :: r)
  | there {y : Str} {r : List Str} : InL x r → InL x (y :: r)
theorem InL.mem {x : Str} : ∀ {l : List Str}, InL x l → x ∈ l
  | _, .here => List.mem_cons_self
  | _, .there h => List.mem_cons_of_mem _ h.mem
inductive InN (x : Str) : Nms → Nat → Prop
  | here {v : Bool} {r : Nms} : InN x ((x, v, true) :: r) 0
  | there {e : Str × Bool × Bool} {r : Nms} {i : Nat} : InN x r i → InN x (e :: r) (i + 1)
theorem InN.at {x : Str} : ∀ {l : Nms} {i : Nat}, InN x l i → ∃ v, l[i]? = some (x, v, true)
  | _, _, .here => ⟨_, rfl⟩
  | _, _, .there h => by simpa using h.at
inductive InB (x : Str) : Nms → Nat → Prop
  | here {r : Nms} : InB x ((x, true, true) :: r) 0
  | there {e : Str × Bool × Bool} {r : Nms} {i : Nat} : InB x r i → InB x (e :: r) (i + 1)
theorem InB.at {x : Str} : ∀ {l : Nms} {i : Nat}, InB x l i → l[i]? = some (x, true, true)
  | _, _, .here => rfl
  | _, _, .there h => by simpa using h.at
section
variable {F : Fm} {B : Bs} {G : Gam} {c : Cn} {b : Bd} {m : Bool} {Po : PoE} {Er : ErE} {nx : Gam → Prop} {R : Rs} {x y : Str} {i j : Nat} {p pos pos' : Pos} {a e d0 : Expr} {es : List Expr} {st : Stmt} {rest body : List Stmt}
theorem Is.here (I : Is F c b m) (h : InL x b.gl) : x ∈ F.gl := by rw [I.gl]; exact h.mem
theorem Is.dn (I : Is F c b m) {k n : Nat} {T : PT} (h : Dn c k x n T) : Def1 F.P F.w F.K F.mg F.base k x n T := by
  rw [I.eP, I.ew, I.eK, I.em, I.eb]; exact h
theorem v_var (I : Is F c b m) {d : D} (h : LookV b.nm G.sl x i (.pu d)) (k : Po d G) : WE F B (.Name x p) G Po Er := we_var I.nm h k
theorem v_frz (I : Is F c b m) {xs : List D} {sl : List Sl} (h : LookV b.nm G.sl x i (.ow (.lst xs))) (s : SetS G.sl i (.pu (.lst xs)) sl) (k : Po (.lst xs) { G with sl := sl }) : WE F B (.Name x p) G Po Er := by
  obtain rfl := s.at
  exact we_frz I.nm h k
theorem v_gint (I : Is F c b m) {n : Int} (hm : ∃ t, c.mg x = some (.int n t)) (hg : InL x b.gl) (hd : (x == ("__debug__" : Str)) = false) (k : Po (.int n) G) : WE F B (.Name x p) G Po Er := by
  obtain ⟨t, hm⟩ := hm
  exact we_gint (by rw [I.em]; exact hm) (I.here hg) hd k
theorem v_gref (I : Is F c b m) {a : Addr} (hm : c.mg x = some (.ref a)) (hg : InL x b.gl) (hd : (x == ("__debug__" : Str)) = false) (k : Po (.ref a) G) : WE F B (.Name x p) G Po Er :=
  we_gref (by rw [I.em]; exact hm) (I.here hg) hd k
theorem v_bty (I : Is F c b m) {T : String} (hv : bootBuiltins x = some (.type T)) (hm : c.mg x = none) (hg : InL x b.gl) (hn : x ≠ "__name__") (hd : (x == ("__debug__" : Str)) = false) (k : Po (.ty T) G) : WE F B (.Name x p) G Po Er :=
  we_bty (by rw [I.em]; exact hm) hv (I.here hg) hn hd k
theorem v_callB (I : Is F c b m) {id : String} (hv : bootBuiltins x = some (.builtin id)) (hm : c.mg x = none) (hg : InL x b.gl) (hn : x ≠ "__name__") (hd : (x == ("__debug__" : Str)) = false) (he : ∀ env, starEach (e :: es) env = (false, eval e env) :: starEach es env) (hpl : ∀ env, (backTo pos (starEach es env)).any (·.1) = false)
    (h : WAP F B (e :: es) G (fun as G1 => Cb F B (.builtin id) as G1 Po Er) Er) : WE F B (.Call (.Name x p) (e :: es) [] pos) G Po Er := we_callB (by rw [I.em]; exact hm) hv (I.here hg) hn hd he hpl h
theorem v_callTy (I : Is F c b m) {T : String} (hv : bootBuiltins x = some (.type T)) (hm : c.mg x = none) (hg : InL x b.gl) (hn : x ≠ "__name__") (hd : (x == ("__debug__" : Str)) = false) (he : ∀ env, starEach (e :: es) env = (false, eval e env) :: starEach es env) (hpl : ∀ env, (backTo pos (starEach es env)).any (·.1) = false)
    (h : WAP F B (e :: es) G (fun as G1 => Cb F B (.type T) as G1 Po Er) Er) : WE F B (.Call (.Name x p) (e :: es) [] pos) G Po Er := we_callTy (by rw [I.em]; exact hm) hv (I.here hg) hn hd he hpl h
theorem v_call (I : Is F c b true) {k n : Nat} {T : PT} (D1 : Dn c k x n T) (hk : k ≤ b.lv) (hg : InL x b.gl) (he : ∀ env, starEach (e :: es) env = (false, eval e env) :: starEach es env) (hpl : ∀ env, (backTo pos (starEach es env)).any (·.1) = false)
    (h : WAP F B (e :: es) G (fun as G1 => ∃ bs, Args0 as bs ∧ bs.length = n ∧ T bs (fun d _ => Po d G1) (fun C fs _ => Er C fs G1)) Er) : WE F B (.Call (.Name x p) (e :: es) [] pos) G Po Er :=
  we_call (I.dn D1) (by rw [I.lv]; exact hk) I.cm (I.here hg) he hpl h
theorem PutG.eq {hd : AV} {o : Ob} {G2 : Gam} (h : PutG G hd o G2) : G2 = putH G hd o := by
  cases h with
  | hs s => rw [s.at]; rfl
  | ha => rfl
def Dm (c : Cn) (k : Nat) (x : Str) (n : Nat) (T : PT) : Prop := Dn c k x n T
def Mono (T : PT) : Prop := ∀ {bs : List TV.Arg} {Po Po' : D → List Ob → Prop} {Er Er' : Addr → Fs → List Ob → Prop}, T bs Po Er → (∀ d o, Po d o → Po' d o) → (∀ C fs o, Er C fs o → Er' C fs o) → T bs Po' Er'
theorem v_call1 (I : Is F c b true) {k n : Nat} {T : PT} (D1 : Dm c k x n T) (hM : Mono T) (hk : k ≤ b.lv) (hg : InL x b.gl) (he : ∀ env, starEach (e :: es) env = (false, eval e env) :: starEach es env) (hpl : ∀ env, (backTo pos (starEach es env)).any (·.1) = false)
    (h : WA F B (e :: es) G (fun as G1 => ∃ bs hd, Args1 G1 as bs hd ∧ bs.length = n ∧ T bs (fun d obs => ∃ o, obs = [o] ∧ ∃ G2, PutG G1 hd o G2 ∧ Po d G2) (fun C fs obs => ∃ o, obs = [o] ∧ ∃ G2, PutG G1 hd o G2 ∧ Er C fs G2)) Er) : WE F B (.Call (.Name x p) (e :: es) [] pos) G Po Er := by
  refine we_call1 (I.dn D1) (by rw [I.lv]; exact hk) I.cm (I.here hg) he hpl fun σ P H Q hh hq hr => h σ P H Q hh (fun as G1 vs P1 H1 w h1 => hq as G1 vs P1 H1 ?_ h1) hr
  obtain ⟨bs, hd, a1, hl, t⟩ := w
  refine ⟨bs, hd, a1, hl, hM t (fun d o q => ?_) (fun C fs o q => ?_)⟩
  · obtain ⟨o', e, G2, pg, r⟩ := q
    exact ⟨o', e, by rw [← pg.eq]; exact r⟩
  · obtain ⟨o', e, G2, pg, r⟩ := q
    exact ⟨o', e, by rw [← pg.eq]; exact r⟩
theorem v_nil {Pa : List AV → Gam → Prop} (k : Pa [] G) : WAP F B [] G Pa Er := wa_nil k
theorem v_cons {Pa : List AV → Gam → Prop} (hs : ∀ env, starEach (e :: es) env = (false, eval e env) :: starEach es env) (h : WE F B e G (fun d G1 => WAP F B es G1 (fun as G2 => Pa (.pu d :: as) G2) Er) Er) : WAP F B (e :: es) G Pa Er := wa_cons hs h
theorem v_hs {Pa : List AV → Gam → Prop} (I : Is F c b m) {o : Ob} (h : LookV b.nm G.sl x i (.ow o)) (hs : ∀ env, starEach (.Name x p :: es) env = (false, eval (.Name x p) env) :: starEach es env) (k : WA F B es G (fun as G2 => Pa (.hs i :: as) G2) Er) : WA F B (.Name x p :: es) G Pa Er := wa_hs I.nm h hs k
theorem v_ha {Pa : List AV → Gam → Prop} (I : Is F c b m) {j : Nat} {o : Ob} (h : LookV b.nm G.sl x i (.ar j)) (ho : G.ar[j]? = some o) (hs : ∀ env, starEach (.Name x p :: es) env = (false, eval (.Name x p) env) :: starEach es env) (k : WA F B es G (fun as G2 => Pa (.ha j :: as) G2) Er) : WA F B (.Name x p :: es) G Pa Er := wa_ha I.nm h ho hs k
theorem v_acons {Pa : List AV → Gam → Prop} (hs : ∀ env, starEach (e :: es) env = (false, eval e env) :: starEach es env) (h : WE F B e G (fun d G1 => WA F B es G1 (fun as G2 => Pa (.pu d :: as) G2) Er) Er) : WA F B (e :: es) G Pa Er := wa_cons hs h
theorem v_anil {Pa : List AV → Gam → Prop} (k : Pa [] G) : WA F B [] G Pa Er := wa_nil k
theorem v_tup {j : Nat} (h : WAP F B es G (fun as G1 => ∃ ds, Pus as ds ∧ ds.length ≤ 100000 ∧ Po (.tup ds) G1) Er) : WE F B (.Tuple es j pos) G Po Er := we_tup h
theorem v_lst (h : WAP F B es G (fun as G1 => ∃ ds, Pus as ds ∧ ds.length ≤ 100000 ∧ Po (.lst ds) G1) Er) : WE F B (.List es pos) G Po Er := we_lst h
theorem v_disp {Po : Ob → Gam → Prop} (h : WAP F B es G (fun as G1 => ∃ ds, Pus as ds ∧ ds.length ≤ 100000 ∧ Po (.lst ds) G1) Er) : WO F B (.List es pos) G Po Er := wo_disp h
theorem v_asg (I : Is F c b m) (hi : InN x b.nm i) (hs : ∀ env, swapsWith e (some (.Name x pos')) pos.line env = pure false) (h : WE F B e G (fun d G1 => ∃ sl, SetS G1.sl i (.pu d) sl ∧ nx { G1 with sl := sl }) R.er) : XS F B (.Assign [.Name x pos'] e pos) G nx R := by
  refine ws_asg I.nm (fun c => hs _) (fun σ P H Q hh hq hr => h σ P H Q hh (fun d G' v P' H' ⟨sl, s, k⟩ h' => hq d G' v P' H' ⟨sl, ?_, k⟩ h') hr) hi.at
  exact InN.put hi s
where InN.put {x : Str} {s : Sl} : ∀ {l : Nms} {i : Nat} {sl sl' : List Sl}, InN x l i → SetS sl i s sl' → PutV l sl x i s sl'
  | _, _, _, _, .here, .here => .here
  | _, _, _, _, .there h, .there q => .there (InN.put h q)
theorem v_asgO (I : Is F c b m) (hi : InN x b.nm i) (hs : ∀ env, swapsWith e (some (.Name x pos')) pos.line env = pure false) (h : WO F B e G (fun o G1 => ∃ sl, SetS G1.sl i (.ow o) sl ∧ nx { G1 with sl := sl }) R.er) : XS F B (.Assign [.Name x pos'] e pos) G nx R := by
  refine ws_asgO I.nm (fun c => hs _) (fun σ P H Q hh hq hr => h σ P H Q hh (fun d G' v P' H' ⟨sl, s, k⟩ h' => hq d G' v P' H' ⟨sl, ?_, k⟩ h') hr) hi.at
  exact v_asg.InN.put hi s
theorem v_snil (k : nx G) : XSs F B [] G nx R := wss_nil k
theorem v_scons (h : XS F B st G (fun G1 => XSs F B rest G1 nx R) R) : XSs F B (st :: rest) G nx R := wss_cons h
theorem v_ret (h : WE F B e G R.rt R.er) : XS F B (.Return (some e) pos) G nx R := ws_ret h
theorem v_retN (k : R.rt .non G) : XS F B (.Return none pos) G nx R := ws_retN k
theorem v_expr (hs : ∀ env, swapsWith e none pos.line env = pure false) (h : WE F B e G (fun _ G1 => nx G1) R.er) : XS F B (.Expr e pos) G nx R := ws_expr hs h
theorem v_if {s1 s2 : List Stmt} (h : WT F B a G (fun k G1 => if k = true then XSs F B s1 G1 nx R else XSs F B s2 G1 nx R) R.er) : XS F B (.If a s1 s2 pos) G nx R := ws_if h
theorem v_pass (k : nx G) : XS F B (.Pass pos) G nx R := ws_pass k
theorem v_break (k : R.bk G) : XS F B (.Break pos) G nx R := ws_break k
theorem v_cont (k : R.ct G) : XS F B (.Continue pos) G nx R := ws_continue k
theorem v_par (I : Is F c b true) {px py pt pt2 : Pos} {kt k2 : Nat} (hi : InB x b.nm i) (hj : InB y b.nm j) (hij : i ≠ j) (lx : b.sc.names.lookup x = some .local) (ly : b.sc.names.lookup y = some .local)
    (hw : ∀ env : Env, env.scope = b.sc → swappedStores [.Tuple [.Name x px, .Name y py] kt pt] (.Tuple [a, e] k2 pt2) env = pure (some [x, y])) (hs : ∀ env, swapsWithSole [.Tuple [.Name x px, .Name y py] kt pt] (.Tuple [a, e] k2 pt2) pos.line env = pure false)
    (h : WAP F B [a, e] G (fun as G1 => ∃ d1 d2 sl sl', as = [.pu d1, .pu d2] ∧ PutV b.nm G1.sl x i (.pu d1) sl ∧ PutV b.nm sl y j (.pu d2) sl' ∧ nx { G1 with sl := sl' }) R.er) :
    XS F B (.Assign [.Tuple [.Name x px, .Name y py] kt pt] (.Tuple [a, e] k2 pt2) pos) G nx R :=
  ws_par I.nm I.cm hij hi.at hj.at (fun c => by rw [(F.ok c).esc, I.sc]; exact lx) (fun c => by rw [(F.ok c).esc, I.sc]; exact ly) (fun c => hw _ (by rw [(F.ok c).esc, I.sc])) (fun c => hs _) h
theorem v_aug (I : Is F c b m) {op : Operator} {s0 : D} (hl : LookV b.nm G.sl x i (.pu s0)) (hi : InN x b.nm i)
    (h : WE F B e G (fun d G1 => Op F B (inplaceOp op) s0 d G1 (fun d' G2 => ∃ sl, SetS G2.sl i (.pu d') sl ∧ nx { G2 with sl := sl })) R.er) : XS F B (.AugAssign (.Name x pos') op e pos) G nx R := by
  refine ws_aug I.nm hl hi.at (fun σ P H Q hh hq hr => h σ P H Q hh (fun d G' v P' H' o h' => hq d G' v P' H' (fun σ P H x y Q hh r1 r2 hq => o σ P H x y Q hh r1 r2 fun d G' v P' H' ⟨sl, s, k⟩ h' => hq d G' v P' H' ⟨sl, ?_, k⟩ h') h') hr)
  exact v_asg.InN.put hi s
theorem v_ixA (I : Is F c b m) (hs : ∀ o i, subscripted e false o i = operate [o, i] (getItem o i)) (hl : LookV b.nm G.sl x i (.ar j)) {xs : List D} (ho : G.ar[j]? = some (.lst xs))
    (h : WE F B e G (fun d G1 => G1.sl = G.sl ∧ G1.ar = G.ar ∧ ∃ n y, d = .int n ∧ atI xs n = some y ∧ Po y G1) Er) : WE F B (.Subscript (.Name x p) e pos) G Po Er := we_ixA I.nm hs hl ho h
theorem v_ixO (I : Is F c b m) (hs : ∀ o i, subscripted e false o i = operate [o, i] (getItem o i)) {xs : List D} (hl : LookV b.nm G.sl x i (.ow (.lst xs)))
    (h : WE F B e G (fun d G1 => G1.sl = G.sl ∧ ∃ n y, d = .int n ∧ atI xs n = some y ∧ Po y G1) Er) : WE F B (.Subscript (.Name x p) e pos) G Po Er := we_ixO I.nm hs hl h
theorem sub_to (I : Is F c b m) {s : Sl} {pt : Pos} (hl : LookV b.nm G.sl x i s) (ha : ∀ env v, assign (.Subscript (.Name x p) e pt) env v = (do
      let o1 ← holding [v] (eval (.Name x p) env)
      let i1 ← holding [v, o1] (eval e env)
      standAt pt
      holding [v, o1, i1] (setItem o1 i1 v)
      release [v, o1, i1] [])) : ∀ c, PG (F.X c) (.Subscript (.Name x p) e pt) (gSub (tVar i) (eR F.X e) rSetL) := fun c =>
  pg_sub (name_here I.nm hl c) (eR_pe c) set_list (ha _)
theorem v_setA (I : Is F c b m) {pt : Pos} (hl : LookV b.nm G.sl x i (.ar j)) (ha : ∀ env v, assign (.Subscript (.Name x p) d0 pt) env v = (do
      let o1 ← holding [v] (eval (.Name x p) env)
      let i1 ← holding [v, o1] (eval d0 env)
      standAt pt
      holding [v, o1, i1] (setItem o1 i1 v)
      release [v, o1, i1] [])) (hs1 : ∀ env, swapsWithSole [.Subscript (.Name x p) d0 pt] e pos.line env = pure false) (hw : ∀ env, swappedStores [.Subscript (.Name x p) d0 pt] e env = pure none) (h1 : ∀ env, (assignEach [.Subscript (.Name x p) d0 pt] env).map (·.2) = [assign (.Subscript (.Name x p) d0 pt) env])
    (h : WE F B e G (fun d G1 => G1.sl = G.sl ∧ WE F B d0 G1 (fun d2 G2 => G2.sl = G.sl ∧ ∃ n xs m, d2 = .int n ∧ G2.ar[j]? = some (.lst xs) ∧ ixN xs.length n = some m ∧ nx { G2 with ar := G2.ar.set j (.lst (xs.set m d)) }) R.er) R.er) :
    XS F B (.Assign [.Subscript (.Name x p) d0 pt] e pos) G nx R := ws_setA I.nm hl hs1 hw h1 (sub_to I hl ha) h
theorem v_append (I : Is F c b m) {apos : Pos} {xs : List D} (hl : LookV b.nm G.sl x i (.ow (.lst xs))) (hbase : ∀ env, attributeBase (.Name x p) "append" env (eval (.Name x p) env) = eval (.Name x p) env)
    (hfew : ∀ env, ((backTo pos (starEach [e] env)).all (fun x => !x.1) && (backToKw pos (keywordEach [] env)).all (fun x => x.1.isSome) && decide ([e].length + ([] : List Keyword).length + (if ([] : List Keyword).isEmpty then 0 else 1) < 30)) = true)
    (hline : (apos.endLine == pos.line) = true) (hs : ∀ env, starEach [e] env = (false, eval e env) :: starEach [] env) (hpl : ∀ env, (backTo pos (starEach [] env)).any (·.1) = false) (hsz : xs.length < 100000)
    (h : WE F B e G (fun d G1 => LookV b.nm G1.sl x i (.ow (.lst xs)) ∧ ∃ sl, SetS G1.sl i (.ow (.lst (xs ++ [d]))) sl ∧ Po .non { G1 with sl := sl }) Er) : WE F B (.Call (.Attribute (.Name x p) "append" apos) [e] [] pos) G Po Er := we_append I.nm hl hsz hbase hfew hline hs hpl h
theorem v_gname (I : Is F c b m) {d : D} {Pg : Gam → Prop} {sl : List Sl} (h : PutV b.nm G.sl x i (.pu d) sl) (k : Pg { G with sl := sl }) : WG F B (.Name x p) [i] d G Pg := wg_name I.nm h k
theorem v_for (I : Is F c b true) {tg iter : Expr} {js : List Nat} (hs : ∀ env x, foldedSetIterable iter env x = pure x)
    (h : WI F B tg iter G (fun ds G1 => ∃ I : Nat → Gam → Prop, I 0 G1 ∧ (∀ B' j d G', ds[j]? = some d → I j G' → WG F B' tg js d G' (fun G2 => XSs F B' body G2 (I (j + 1)) ⟨R.rt, nx, I (j + 1), R.er⟩)) ∧ (∀ G', I ds.length G' → nx G')) R.er) :
    XS F B (.For tg iter body [] pos) G nx R := ws_for I.cm hs h
theorem v_range1 (I : Is F c b m) {tg : Expr} {Pw : List D → Gam → Prop} (hm : c.mg "range" = none) (hg : InL "range" b.gl) (hs : ∀ env, starEach [a] env = [(false, eval a env)])
    (h : WAP F B [a] G (fun as G1 => ∃ n : Int, as = [.pu (.int n)] ∧ n ≤ 100000 ∧ 0 ≤ n ∧ Pw ((List.range n.toNat).map fun i => D.int (i : Nat)) G1) Er) : WI F B tg (.Call (.Name "range" p) [a] [] pos) G Pw Er := wi_range1 (by rw [I.em]; exact hm) (I.here hg) hs h
/-! blocks -/
variable {scope : Scope} {nm' : Nms} {gl' : List Str} {own : List (Str × Nat)} {tg iter elt : Expr} {ifs : List Expr} {js : List Nat} {spos py : Pos}
/-! try -/
def Su (F' : Fm) (B' : Bs) (a C : Addr) (fs : Fs) : Prop := ∃ F B dd, F' = Fm.suite F a (.ref C) (some dd) ∧ B' = Bs.push B dd (.xd fs)
theorem v_exf {f : Str} {a1 C : Addr} {fs : Fs} {v : D} {n : Str} (I : Is F c b m) (S : Su F B a1 C fs) (hl : LookV b.nm G.sl n i (.pu (.ref a1))) (T : XfC c.K C) (hno : PySem.W.findIn c.K (.ref C) f = some none) (hb : ∀ env, attributeBase (.Name n p) f env (eval (.Name n p) env) = eval (.Name n p) env) (hv : fs.lookup f = some v) (k : Po v G) :
    WE F B (.Attribute (.Name n p) f pos) G Po Er := by
  obtain ⟨F0, B0, dd, rfl, rfl⟩ := S
  exact we_exf (F := F0) I.nm (by have := I.eK; rw [← this] at T; exact T) (by have := I.eK; rw [← this] at hno; exact hno) hl hv hb k
structure V0 (c : Cn) (x : Str) (C : Addr) : Prop where
  e : Exc0 c.K c.mg x C
structure VN (c : Cn) (x : Str) (C : Addr) (fn : List Str) : Prop where
  e : ExcN c.P c.w c.K c.mg c.base x C fn
theorem v_raise0 {pos2 : Pos} (I : Is F c b true) {C : Addr} (T : V0 c x C) (hg : InL x b.gl) (k : R.er C [] G) : XS F B (.Raise (some (.Call (.Name x p) [] [] pos)) none pos2) G nx R :=
  ws_raise0 I.cm (by rw [I.eK, I.em]; exact T.e) (I.here hg) k
theorem v_raise {pos2 : Pos} {fn : List Str} (I : Is F c b true) {C : Addr} (T : VN c x C fn) (hlv : 2 ≤ b.lv) (hg : InL x b.gl) (he : ∀ env, starEach (e :: es) env = (false, eval e env) :: starEach es env) (hpl : ∀ env, (backTo pos (starEach es env)).any (·.1) = false)
    (h : WAP F B (e :: es) G (fun as G1 => ∃ ds, Pus as ds ∧ ds.length = fn.length ∧ ds.length ≤ 1000 ∧ R.er C (fn.zip ds).reverse G1) R.er) : XS F B (.Raise (some (.Call (.Name x p) (e :: es) [] pos)) none pos2) G nx R :=
  ws_raise I.cm (by rw [I.lv]; exact hlv) (by rw [I.eP, I.ew, I.eK, I.em, I.eb]; exact T.e) (I.here hg) he hpl h
theorem ite_dec {p : Prop} [Decidable p] {A C : Prop} (h1 : p → A) (h2 : ¬ p → C) : if decide p = true then A else C := by
  by_cases h : p
  · rw [if_pos (decide_eq_true h)]; exact h1 h
  · rw [if_neg (by simpa using h)]; exact h2 h
theorem ite_ndec {p : Prop} [Decidable p] {A C : Prop} (h1 : ¬ p → A) (h2 : p → C) : if (!decide p) = true then A else C := by
  by_cases h : p
  · rw [if_neg (by simpa using h)]; exact h2 h
  · rw [if_pos (by simpa using h)]; exact h1 h
theorem yes_go {A C : Prop} (h : A) : if true = true then A else C := by rw [if_pos rfl]; exact h
theorem no_go {A C : Prop} (h : C) : if false = true then A else C := by rw [if_neg Bool.false_ne_true]; exact h
theorem not_go {k : Bool} {A C : Prop} (h : if k = true then C else A) : if (!k) = true then A else C := by
  cases k with
  | true => rw [if_pos rfl] at h; rw [if_neg (by decide)]; exact h
  | false => rw [if_neg Bool.false_ne_true] at h; rw [if_pos (by decide)]; exact h
theorem one_go {o : Ob} {Q : Ob → Prop} (h : Q o) : ∃ o', [o] = [o'] ∧ Q o' := ⟨o, rfl, h⟩
theorem ite_go {k : Bool} {A C : Prop} (h1 : k = true → A) (h2 : k = false → C) : if k = true then A else C := by
  cases k with
  | true => rw [if_pos rfl]; exact h1 rfl
  | false => rw [if_neg Bool.false_ne_true]; exact h2 rfl
end
/-! more rules -/
section
variable {F : Fm} {B : Bs} {G : Gam} {c : Cn} {b : Bd} {m : Bool} {Po : PoE} {Er : ErE} {nx : Gam → Prop} {R : Rs} {x : Str} {i : Nat} {p pos : Pos} {e d0 : Expr} {st : Stmt}
theorem v_cut (J : Gam → Prop) (h1 : XS F B st G J R) (h2 : ∀ G1, J G1 → nx G1) : XS F B st G nx R :=
  fun σ P H D hh hn ht hb hc hr => h1 σ P H D hh (fun G' σ' P' H' k => hn G' σ' P' H' (h2 G' k)) ht hb hc hr
/-- x[d0] = e, x a list of one's own; e and d0 may change other slots -/
theorem v_setO (I : Is F c b m) {pt : Pos} {s0 : Sl} (hl0 : LookV b.nm G.sl x i s0) (ha : ∀ env v, assign (.Subscript (.Name x p) d0 pt) env v = (do
      let o1 ← holding [v] (eval (.Name x p) env)
      let i1 ← holding [v, o1] (eval d0 env)
      standAt pt
      holding [v, o1, i1] (setItem o1 i1 v)
      release [v, o1, i1] [])) (hs1 : ∀ env, swapsWithSole [.Subscript (.Name x p) d0 pt] e pos.line env = pure false) (hw : ∀ env, swappedStores [.Subscript (.Name x p) d0 pt] e env = pure none) (h1 : ∀ env, (assignEach [.Subscript (.Name x p) d0 pt] env).map (·.2) = [assign (.Subscript (.Name x p) d0 pt) env])
    (h : WE F B e G (fun d G1 => ∃ xs0, LookV b.nm G1.sl x i (.ow (.lst xs0)) ∧ WE F B d0 G1 (fun d2 G2 => LookV b.nm G2.sl x i (.ow (.lst xs0)) ∧ ∃ n m, d2 = .int n ∧ ixN xs0.length n = some m ∧ ∃ sl, SetS G2.sl i (.ow (.lst (xs0.set m d))) sl ∧ nx { G2 with sl := sl }) R.er) R.er) :
    XS F B (.Assign [.Subscript (.Name x p) d0 pt] e pos) G nx R := by
  intro σ P H D hh hnx ht hb hc hr
  refine of_ps (fun c => ps_asg (eR_pe c) (sub_to I hl0 ha c) (hs1 _) (hw _) (h1 _)) ?_
  refine h σ P H _ hh (fun d G1 v P1 H1 po h1 x1 r1 => ?_) (fun C fs G' a P' H' => hr C fs G' a σ P' H')
  obtain ⟨xs0, l1, k⟩ := po
  obtain ⟨q, e1, _, _, _⟩ := h1.getO l1.at.2
  refine ⟨_, e1, k σ P1 H1 _ h1 (fun d2 G2 v2 P2 H2 w2 h2 x2 r2 => ?_) (fun C fs G' a P' H' => hr C fs G' a σ P' H')⟩
  obtain ⟨l2, n, m, rfl, hm, sl, pv, k2⟩ := w2
  cases r2
  obtain ⟨q2, e2, _, _, o2⟩ := h2.getO l2.at.2
  rw [e1] at e2; cases e2
  obtain ⟨vs, g1, g2, g3⟩ := put_own o2 (r1.mono x2) hm
  obtain rfl := pv.at
  exact ⟨q, vs, n, m, rfl, rfl, g1, g2, hnx _ σ P2 _ k2 (h2.chg l2.at.2 e1 g3)⟩
end
theorem okD_refl {d : D} (h : okD d = true) : eqD d d = true := by
  unfold okD at h
  rw [Bool.and_eq_true] at h
  exact SeqAt.eqv_refl _ (SeqAt.canLay_of_shaped h.2)
theorem flat_ints : ∀ xs : List Int, flatDs (xs.map D.int) = true
  | [] => rfl
  | x :: xs => by simp [flatDs, flatD, flat_ints xs]
theorem lay_ints : ∀ xs : List Int, PyData.canLayAll0 (toPys (xs.map D.int)) = true
  | [] => rfl
  | x :: xs => by simp [toPys, toPy, PyData.canLayAll0, PyData.canLay0, lay_ints xs]
theorem depth_ints : ∀ xs : List Int, PyData.depthAll (toPys (xs.map D.int)) = 0
  | [] => rfl
  | x :: xs => by simp [toPys, toPy, PyData.depthAll, PyData.depth, depth_ints xs]
theorem ok_lst (xs : List Int) : okD (.lst (xs.map D.int)) = true := by
  simp [okD, flatD, flat_ints, SeqAt.shaped, toPy, PyData.canLay0, lay_ints, PyData.depth, depth_ints]
theorem ok_tup (xs : List Int) : okD (.tup (xs.map D.int)) = true := by
  simp [okD, flatD, flat_ints, SeqAt.shaped, toPy, PyData.canLay0, lay_ints, PyData.depth, depth_ints]
theorem _root_.L2.FunD.plain {K : PySem.W.Frag} {x qual : Str} {st : Stmt} {kws : List (Str × V)} {f : Addr} {fd : FuncData} (F : FunD K x qual (defArgs st) (defBody st) (defScope st) [] kws f fd) : L2.Fun K x qual st f fd := by
  obtain ⟨⟨oc, od, dV, kV, doc, pm, an, cdv, ct, osl, e, lk, hc, hd, _⟩, kp⟩ := F
  rcases hd with ⟨_, rfl⟩ | ⟨z, _⟩
  · exact ⟨⟨oc, od, kV, doc, pm, an, cdv, ct, osl, e, lk, hc⟩, kp⟩
  · exact absurd rfl z
/-- a def's promise, by its body -/
theorem dn_of {c : Cn} {x : Str} {st : Stmt} {f : Addr} {fd : FuncData} {ps : List Str} {nm : Nms} {gl : List Str} {k n : Nat} {T : PT} (F0 : L2.Fun c.K x x st f fd) (hm : c.mg x = some (.ref f)) (hb : Binds c.K fd ps []) (S : FnScope (nm.map (·.1)) ps (defScope st)) (hnm : nmB true (defScope st) nm = true) (hgl : glB (defScope st) gl = true) (hn : ps.length = n) (nodb : (x == ("__debug__" : Str)) = false)
    (body : ∀ (F : Fm) (B : Bs) (args : List Arg) (Po : D → List Ob → Prop) (Er : Addr → Fs → List Ob → Prop), Is F c ⟨nm, gl, defScope st, k⟩ true → F.top = true → T args Po Er → args.length = n → XSs F B (defBody st) (G0 nm args) (fun G => Po .non G.ar) (rsOf Po Er)) : Dn c (k + 1) x n T :=
  ⟨⟨f, fd, ps, hm, F0.kp, hb, hn, fn_ok F0 S hnm hgl hn fun J X W ok B args Po Er t hl => body _ B args Po Er ⟨rfl, rfl, rfl, rfl, rfl, rfl, rfl, rfl, rfl, rfl⟩ rfl t hl⟩, nodb⟩
end TV
/-! Facts of the head: own error classes. -/
namespace TV
open PySem PySem.Spec PyProof.Rows L2
/-- the law itself -/
theorem law_ok {c : Cn} {x : Str} {f : Addr} {fd : FuncData} {st : Stmt} {ps : List Str} {nm : Nms} {gl : List Str} {k n : Nat} {T : PT} (F0 : L2.Fun c.K x x st f fd) (S : FnScope (nm.map (·.1)) ps (defScope st)) (hnm : nmB true (defScope st) nm = true) (hgl : glB (defScope st) gl = true) (hn : ps.length = n)
    (body : ∀ (F : Fm) (B : Bs) (args : List Arg) (Po : D → List Ob → Prop) (Er : Addr → Fs → List Ob → Prop), Is F c ⟨nm, gl, defScope st, k⟩ true → F.top = true → T args Po Er → args.length = n → XSs F B (defBody st) (G0 nm args) (fun G => Po .non G.ar) (rsOf Po Er)) : FnOk c.P c.w c.K c.mg c.base (L2.CX c.P c.w) (k + 1) f fd ps (spOf c.K T n) :=
  fn_ok F0 S hnm hgl hn fun J X W ok B args Po Er t hl => body _ B args Po Er ⟨rfl, rfl, rfl, rfl, rfl, rfl, rfl, rfl, rfl, rfl⟩ rfl t hl
/-- the law's promise at its list -/
theorem sp_law {K : PySem.W.Frag} {T : PT} {H : Hp} {a : Addr} {ns : List Int} (hT : ∀ (Po : D → List Ob → Prop) (Er : Addr → Fs → List Ob → Prop), Po (.bl true) [] → T [.pu (.lst (ns.map D.int))] Po Er) (hS : SqL K H a (ns.map V.int)) : spOf K T 1 [.ref a] H (fun v _ => v = .bl true) fun _ _ _ => False := by
  refine ⟨[.pu (.lst (ns.map D.int))], [], H, fun d _ => d = .bl true, fun _ _ _ => False, rfl, .pu (.lst hS RpL.ints) .nil, List.nodup_nil, Ex.rfl, hT _ _ rfl, fun d obs v P' H' sl σ po h' r => ?_, fun C fs obs a P' H' sl σ er h' => er⟩
  subst po
  cases r
  rfl
/-- a def by the head's fact -/
theorem dn_fact {c : Cn} {x : Str} {st : Stmt} {ps : List Str} {nm : Nms} {gl : List Str} {k n : Nat} {T : PT} (hm : c.mg x = some (.ref (He.ga c.K x))) (F : ∃ fd, FunD c.K x x (defArgs st) (defBody st) (defScope st) [] [] (He.ga c.K x) fd)
    (hb : ∀ (kV doc pm : Value) (an : Option Addr) (cdv ct : Value) (us : List Value), us.length = ps.length → bindArgs (PySem.W.fnOf x x (defArgs st) (defBody st) (defScope st) .none kV doc pm an cdv ct) ⟨us, []⟩ = pure (ps.zip us)) (S : FnScope (nm.map (·.1)) ps (defScope st)) (hnm : nmB true (defScope st) nm = true) (hgl : glB (defScope st) gl = true) (hn : ps.length = n) (nodb : (x == ("__debug__" : Str)) = false)
    (body : ∀ (F : Fm) (B : Bs) (args : List Arg) (Po : D → List Ob → Prop) (Er : Addr → Fs → List Ob → Prop), Is F c ⟨nm, gl, defScope st, k⟩ true → F.top = true → T args Po Er → args.length = n → XSs F B (defBody st) (G0 nm args) (fun G => Po .non G.ar) (rsOf Po Er)) : Dn c (k + 1) x n T := by
  obtain ⟨fd, F⟩ := F
  exact dn_of F.plain hm (F.bindsN hb) S hnm hgl hn nodb body
/-- a law whose def may raise inside: the head gives the part K that stands, the function object and the promise -/
theorem walk_w {ll : PySem.W.OpenLaw} {nn kk : Nat} {qq : Program} {los : List Str} {XQ : (Str → Option Value) → Heap → Prop} {YQ : World → Heap → Prop} {df : DefRec} {xx : Str} {T : PT} (hn : ll.most = some nn) (hn2 : nn ≤ sizeLine) (hdf : df.params.defaults = []) (hr : Room kk callerA)
    (hT : ∀ (ns : List Int) (Po : D → List Ob → Prop) (Er : Addr → Fs → List Ob → Prop), Po (.bl true) [] → T [.pu (.lst (ns.map D.int))] Po Er)
    (Fw : ∀ (w : World) (mg : Str → Option Value) (fa : Addr) (h : Heap), YQ w h → h.Ns mainGlobals mg → mg df.name = some (.ref fa) → ∃ (K : PySem.W.Frag) (fd : FuncData), K.In h ∧ (∀ (s : Shared) (u : Value), BindsTo s fd ⟨[u], []⟩ [(xx, u)]) ∧ ∀ base : Heap, FnOk ll.prog w K mg base (L2.CX ll.prog w) kk fa fd [xx] (spOf K T 1)) :
    PySem.W.WalkO qq los XQ YQ ll.row.toRowW df [] (fun f us => PySem.call f us) := by
  refine Att.attach_call hn hdf fun w s0 s1 mg mb fa o pm cd doc a vs ns G Y ho hd hcd hmg hobj hints hlen hg => ?_
  obtain ⟨K, fd, KX, hb, hF⟩ := Fw w mg fa _ Y G.T.g hmg
  refine law_call KX G.T.g G.T.b G.T.builtins G.T.nolimit hg hobj hints (Nat.le_trans hlen hn2) hr (fun base _ _ => hF base) hb (fun H _ hS => sp_law (hT ns) hS) fun H e s' z => ?_
  obtain ⟨_, _, _, _, _, _, _, _, _, _, _, _, z⟩ := z
  exact z
end TV
/-! A list of one's own becomes plain between two statements; more words. -/
namespace TV
open PySem PySem.Spec PyProof.Rows L2
section
variable {F : Fm} {B : Bs} {G : Gam} {c : Cn} {b : Bd} {m : Bool} {nx : Gam → Prop} {R : Rs} {x : Str} {i : Nat} {sts : List Stmt}
theorem v_frzS (x : Str) (I : Is F c b m) {xs : List D} {sl : List Sl} (hl : LookV b.nm G.sl x i (.ow (.lst xs))) (s : SetS G.sl i (.pu (.lst xs)) sl) (h : XSs F B sts { G with sl := sl } nx R) : XSs F B sts G nx R := by
  intro σ P H D hh hn ht hb hc hr
  obtain ⟨q, P', e, h1, h2, h3⟩ := hh.frzL hl.at.2
  obtain rfl := s.at
  exact h σ P' H D h1 hn ht hb hc hr
end
end TV
/-! Instances: made, their fields read and stored, isinstance of own classes. -/
namespace TV
open PySem PySem.Spec PyProof.Rows L2
section
variable {K : PySem.W.Frag} {B : Bs} {G : Gam} {σ σ' : L2.St} {P P' H H' : Hp}
theorem Holds.callT {p : Addr} {o o' : Ob} {sl : List Sl} (h : Holds K (B.push p o) G σ P H) (h' : Holds K ⟨[p], P, H, []⟩ ⟨sl, [o']⟩ σ' P' H') : Holds K (B.push p o') G σ P' H' ∧ Ex P P' := by
  obtain ⟨hB, n, n0, c, na⟩ := h.popT
  have ob : ObAt K P' H' p o' := by
    cases h'.ars with
    | cons _ o _ => exact o
  obtain ⟨M, s, nd⟩ := h.sls
  have np : ∀ b, b ≠ p → b ∉ [p] := fun b hb z => hb (List.mem_singleton.mp z)
  rw [tmS_push, tmV_push] at s
  have e1 : ((G.sl ++ (regS G.ar ++ tmS B.T)) ++ [Sl.ow o])[(G.sl ++ (regS G.ar ++ tmS B.T)).length]? = some (.ow o) := by simp
  have el : (σ ++ (regV G.ar ++ tmV B.T)).length = (G.sl ++ (regS G.ar ++ tmS B.T)).length := by
    have := s.len
    simp only [List.length_append, List.length_cons, List.length_nil] at this ⊢
    omega
  have e2 : ((σ ++ (regV G.ar ++ tmV B.T)) ++ [some (V.ref p)])[(G.sl ++ (regS G.ar ++ tmS B.T)).length]? = some (some (.ref p)) := by rw [← el]; simp
  have sc := s.chg2 h'.p0 ob _ nd e1 e2 (fun b hb => still_none h' (s.own b hb).2.2 (s.own b hb).1) (fun b hb hn => still_same h' (s.own b hb).2.2 (np b hn))
  have es : ((G.sl ++ (regS G.ar ++ tmS B.T)) ++ [Sl.ow o]).set (G.sl ++ (regS G.ar ++ tmS B.T)).length (.ow o') = (G.sl ++ (regS G.ar ++ tmS B.T)) ++ [.ow o'] := by simp
  rw [es] at sc
  refine ⟨⟨⟨M, ?_, nd⟩, h.slen, ?_, h.nda, h.a0, h'.ex, h.p0.trans h'.p0, fun b z hb q => ?_, fun a x y => ?_⟩, h'.p0⟩
  · rw [tmS_push, tmV_push]
    exact sc.base (B := B.push p o) (B' := B.push p o') rfl rfl
  · exact h.ars.step h'.p0 (fun b hb => still_none h' (h.ara b hb) (h.ars.none b hb)) fun b hb => still_same h' (h.ara b hb) (np b fun z => na (z ▸ hb))
  · exact h'.h0 b z (np b (ne_of_none q n0)) (h.h0 b z hb q)
  · by_cases q : P a = none
    · exact (h.fresh (h'.new a q y)).2.1
    · exact h.new a x q
end
/-! making -/
def tMakS (C : Addr) (sp : Sp) (E : L2.St → XK) (t : TA) : TE := fun σ H Q => t σ H fun vs H1 => ∀ x dx, H1 x = none → H1 dx = none → dx ≠ x → sp (.ref x :: vs) (upd (upd H1 dx (.own x)) x (.ins C dx [])) (fun v H2 => v = .non ∧ Q (.ref x) H2) (E σ)
section
variable {X : Cx} {k : Nat} {f C : Addr} {fd : FuncData} {ps : List Str} {sp : Sp} {E : L2.St → XK} {x : Str} {p pos : Pos} {e : Expr} {es : List Expr} {t : TA}
theorem mak_run {pins : List (Addr × Obj)} {σ : L2.St} {H : Hp} {s : Shared} {Q : VK} {us : List Value} {vs : List V} (M : Mk X.K C f) (Fo : FnOk X.prog X.w X.K X.mg X.base (L2.CX X.prog X.w) k f fd ps sp) (hr : Room (k + 1) X.A) (hb : Binds X.K fd ps []) (hx : PassesAt (L2.CX X.prog X.w) X σ (E σ)) (I : Inv X pins σ H s) (r : Vals vs us)
    (h : ∀ x dx, H x = none → H dx = none → dx ≠ x → sp (.ref x :: vs) (upd (upd H dx (.own x)) x (.ins C dx [])) (fun v H2 => v = .non ∧ Q (.ref x) H2) (E σ)) : wpAny (model X.prog X.w) X.A (call (.ref C) us) (EP X pins σ Q) X.xe s := by
  have want := h (s.heap.objs.size + 1) s.heap.objs.size (I.hok.fresh (Nat.le_succ _)) (I.hok.fresh (Nat.le_refl _)) (Nat.ne_of_lt (Nat.lt_succ_self _))
  have J := Inv.made (C := C) I
  have rr : Vals (V.ref (s.heap.objs.size + 1) :: vs) (Value.ref (s.heap.objs.size + 1) :: us) := .cons rfl r
  have ln : (Value.ref (s.heap.objs.size + 1) :: us ++ []).length = ps.length := by
    have q := rr.length
    rw [Fo.len _ _ _ _ want] at q
    simpa using q.symm
  have bd := hb _ (Value.ref (s.heap.objs.size + 1) :: us) J.kIn ln
  rw [List.append_nil] at bd
  refine wpAny_call (make_map (f := f) I.kIn M.makes M.init (beq_iff_eq.mp M.fn) (codeAny_mono (Fo.run _ X.stack _ _ ⟨Value.ref (s.heap.objs.size + 1) :: us, []⟩ (Value.ref (s.heap.objs.size + 1) :: us) _ _ (E σ) (hr.make C us []) (J.env0.make C us []) bd rr want) fun fin s2 hq => ?_))
  cases fin with
  | error u => exact hx pins _ _ u s2 J hq
  | ok fl =>
    cases fl with
    | ret u =>
      obtain ⟨v, H2, J2, rv, ev, q2⟩ := J.after hq
      subst ev
      exact ⟨rv, ⟨V.ref (s.heap.objs.size + 1), H2, J2, rfl, q2⟩⟩
    | next => exact hq.elim
    | brk => exact hq.elim
    | cont => exact hq.elim
theorem pe_makS (M : Mk X.K C f) (Fo : FnOk X.prog X.w X.K X.mg X.base (L2.CX X.prog X.w) k f fd ps sp) (hr : Room (k + 1) X.A) (hg : Gl X x) (hm : X.mg x = some (.ref C)) (hb : Binds X.K fd ps []) (hx : ∀ σ, PassesAt (L2.CX X.prog X.w) X σ (E σ)) (ha : PA X (e :: es) t) (hdb : (x == ("__debug__" : Str)) = false)
    (he : starEach (e :: es) X.env = (false, eval e X.env) :: starEach es X.env) (hpl : (backTo pos (starEach es X.env)).any (·.1) = false) : PE X (.Call (.Name x p) (e :: es) [] pos) (tMakS C sp E t) := by
  refine ⟨fun pins s σ H Q I h => wpAny_Call_Name_kw (ld_glob I hg hm ?_ hdb)⟩
  exact PySem.W.callWith_K (h₀ := X.base) I.ok.mod.kin M.kp (thn (ha.run pos pins s σ H _ I h) fun us s1 ⟨vs, H1, I1, r, q⟩ => ⟨I1.kIn, mak_run M Fo hr hb (hx σ) I1 r q⟩) he hpl
end
/-- a class that is made by its __init__, whose promise is T (self first) -/
structure Mkr (c : Cn) (k : Nat) (x : Str) (C : Addr) (n : Nat) (T : PT) : Prop where
  ex : ∃ f fd ps, Mk c.K C f ∧ c.mg x = some (.ref C) ∧ Binds c.K fd ps [] ∧ ps.length = n ∧ FnOk c.P c.w c.K c.mg c.base (L2.CX c.P c.w) k f fd ps (spOf c.K T n)
  nodb : (x == ("__debug__" : Str)) = false
section
variable {F : Fm} {B : Bs} {G : Gam} {c : Cn} {b : Bd} {m : Bool} {Po : PoE} {Er : ErE} {nx : Gam → Prop} {R : Rs} {x f : Str} {i j k n : Nat} {C : Addr} {T : PT} {p pos pos' : Pos} {e : Expr} {es : List Expr}
theorem v_make {PoO : Ob → Gam → Prop} (I : Is F c b true) (D1 : Mkr c k x C n T) (hk : k + 1 ≤ b.lv) (hg : InL x b.gl) (he : ∀ env, starEach (e :: es) env = (false, eval e env) :: starEach es env) (hpl : ∀ env, (backTo pos (starEach es env)).any (·.1) = false)
    (h : WAP F B (e :: es) G (fun as G1 => ∃ bs, Args0 as bs ∧ bs.length + 1 = n ∧ T (.ar (.ins C []) :: bs) (fun d obs => d = .non ∧ ∃ o, obs = [o] ∧ PoO o G1) (fun C fs _ => Er C fs G1)) Er) : WO F B (.Call (.Name x p) (e :: es) [] pos) G PoO Er := by
  obtain ⟨f, fd, ps, M, hm, hb, hl, ok⟩ := D1.ex
  intro σ P H Q hh hq hr
  refine of_pe (t := tMakS C (spOf F.K T n) (L2.WE F.W) (aR F.X (e :: es))) (fun cc => ?_) ?_
  · have Cx := F.ok cc
    have ok' : FnOk (F.X cc).prog (F.X cc).w (F.X cc).K (F.X cc).mg (F.X cc).base (L2.CX (F.X cc).prog (F.X cc).w) k f fd ps (spOf F.K T n) := by
      rw [Cx.eP, Cx.ew, Cx.eK, Cx.emg, Cx.eb, I.eP, I.ew, I.eK, I.em, I.eb]; exact ok
    exact pe_makS (by rw [Cx.eK, I.eK]; exact M) ok' ((Cx.room I.cm).mono (by rw [I.lv]; exact hk)) (Cx.glo x (I.here hg)) (by rw [Cx.emg, I.em]; exact hm) (by rw [Cx.eK, I.eK]; exact hb) (fun σ => passAt Cx.tk σ) (aR_pa cc) D1.nodb (he _) (hpl _)
  · refine h σ P H _ hh (fun as G1 vs P1 H1 w1 h1 x1 av => ?_) hr
    obtain ⟨bs, a0, hl2, t⟩ := w1
    intro q dx hq0 hd0 hne
    have h1a : Holds F.K B G1 σ P1 (upd H1 dx (.own q)) := h1.more (Ex.new hd0)
    have hqa : (upd H1 dx (.own q)) q = none := by rw [upd_ne (Ne.symm hne)]; exact hq0
    have h2 : Holds F.K (B.push q (.ins C [])) G1 σ P1 (upd (upd H1 dx (.own q)) q (.ins C dx [])) := h1a.pushT hqa (.ins upd_same .nil)
    obtain ⟨_, nP, _, obq, _⟩ := h2.popT
    have ao : ArgsOk F.K P1 (upd (upd H1 dx (.own q)) q (.ins C dx [])) (.ref q :: vs) (.ar (.ins C []) :: bs) [q] := .ar nP obq (a0.ok av)
    have lv : (V.ref q :: vs).length = n := by rw [ao.length]; simpa using hl2
    refine ⟨_, [q], P1, _, _, lv, ao, List.nodup_cons.mpr ⟨by simp, List.nodup_nil⟩, h2.ex, t, fun d obs v P' H' sl σ' po h' rv => ?_, fun C' fs obs a P' H' sl σ' er h' => ?_⟩
    · obtain ⟨rfl, o', rfl, po⟩ := po
      cases rv
      obtain ⟨h3, x3⟩ := h2.callT h'
      exact ⟨rfl, hq o' G1 q P' H' po h3 (x1.trans x3)⟩
    · have one : ∀ {obs : List Ob}, ArOk F.K P' H' [q] obs → ∃ o' r, obs = [o'] ++ r := by
        intro obs z
        cases z with
        | cons _ _ r => exact ⟨_, _, rfl⟩
      cases a with
      | none =>
        obtain ⟨ef, h4⟩ := h'
        obtain ⟨o', r, rfl⟩ := one h4.ars
        have h4 := h4.noR (Nat.le_refl _)
        exact hr C' fs G1 none P' H' er ⟨ef, (h2.callT h4).1.popT.1⟩
      | some r0 =>
        obtain ⟨h4, m1, m0, ob, _⟩ := Holds.popT h'
        obtain ⟨o', r, rfl⟩ := one h4.ars
        have h4 := h4.noR (Nat.le_refl _)
        have h5 := (h2.callT h4).1.popT.1
        have hr9 : (upd (upd H1 dx (.own q)) q (.ins C dx [])) r0 = none := m0
        have hrq : r0 ≠ q := fun z => by rw [z, upd_same] at hr9; cases hr9
        rw [upd_ne hrq] at hr9
        have hrd : r0 ≠ dx := fun z => by rw [z, upd_same] at hr9; cases hr9
        rw [upd_ne hrd] at hr9
        exact hr C' fs G1 (some r0) P' H' er (h1.addT h5 (fun i o e => ⟨o, e⟩) hr9 m1 ob)
theorem we_of_ins {PoO : PoE} (h : WO F B e G (fun o G1 => ∃ C fs, o = .ins C fs ∧ PoO (.ins C fs) G1) Er) : WE F B e G PoO Er := by
  intro σ P H Q hh hq hr
  refine h σ P H Q hh (fun o G' p P' H' po h' x => ?_) hr
  obtain ⟨C, fs, rfl, k⟩ := po
  obtain ⟨P2, h2, x2, r⟩ := h'.plainI
  exact hq _ G' _ P2 H' k h2 (x.trans x2) r
/-! fields -/
theorem v_fld (I : Is F c b m) (hb : ∀ env, attributeBase e f env (eval e env) = eval e env) (h : WE F B e G (fun d G1 => ∃ C fs v, d = .ins C fs ∧ Cls c.K C ∧ NoAttr c.K C f ∧ fs.lookup f = some v ∧ Po v G1) Er) : WE F B (.Attribute e f pos) G Po Er := by
  intro σ P H Q hh hq hr
  refine of_pe (t := tFld F.K (eR F.X e) f) (fun cc => ?_) ?_
  · have q := pe_fld (X := F.X cc) (pos := pos) (eR_pe (e := e) cc) (hb _)
    rw [(F.ok cc).eK] at q
    exact q
  · refine h σ P H _ hh (fun d G1 v P1 H1 w1 h1 x1 r1 => ?_) hr
    obtain ⟨C, fs, u, rfl, cl, na, lk, k⟩ := w1
    cases r1 with
    | @ins a _ dx us _ ha rf =>
      obtain ⟨w, lw, rw'⟩ := rf.look lk
      exact ⟨a, C, dx, us, w, rfl, h1.ex _ _ ha, by rw [I.eK]; exact cl, by rw [I.eK]; exact na, lw, hq u G1 w P1 H1 k h1 x1 rw'⟩
theorem v_conB (I : Is F c b m) {bb : Bool} (hb : ∀ env, attributeBase e f env (eval e env) = eval e env) (h : WE F B e G (fun d G1 => ∃ C fs, d = .ins C fs ∧ Cls c.K C ∧ ∃ bb u, Con c.K C f (.bl bb) u ∧ fs.lookup f = none ∧ Po (.bl bb) G1) Er) : WE F B (.Attribute e f pos) G Po Er := by
  intro σ P H Q hh hq hr
  refine of_pe (t := tCon F.K (eR F.X e) f) (fun cc => ?_) ?_
  · have q := pe_con (X := F.X cc) (pos := pos) (eR_pe (e := e) cc) (hb _)
    rw [(F.ok cc).eK] at q
    exact q
  · refine h σ P H _ hh (fun d G1 v P1 H1 w1 h1 x1 r1 => ?_) hr
    obtain ⟨C, fs, rfl, cl, bb, u, co, lk, k⟩ := w1
    cases r1 with
    | @ins a _ dx us _ ha rf => exact ⟨a, C, dx, us, .bl bb, u, rfl, h1.ex _ _ ha, by rw [I.eK]; exact cl, by rw [I.eK]; exact co, rf.none_of lk, hq _ G1 _ P1 H1 k h1 x1 (.bl bb)⟩
/-- x.f, x an object that was handed in -/
theorem v_fldA (I : Is F c b m) (hl : LookV b.nm G.sl x i (.ar j)) {fs : Fs} {v : D} (ho : G.ar[j]? = some (.ins C fs)) (hb : ∀ env, attributeBase (.Name x p) f env (eval (.Name x p) env) = eval (.Name x p) env) (cl : Cls c.K C) (na : NoAttr c.K C f) (lk : fs.lookup f = some v) (k : Po v G) : WE F B (.Attribute (.Name x p) f pos) G Po Er := by
  intro σ P H Q hh hq hr
  refine of_pe (t := tFld F.K (tVar i) f) (fun cc => ?_) ?_
  · have q := pe_fld (X := F.X cc) (pos := pos) (name_here (p := p) I.nm hl cc) (hb _)
    rw [(F.ok cc).eK] at q
    exact q
  · obtain ⟨q, e, eA, _, o⟩ := hh.getA hl.at.2 ho
    cases o with
    | @ins _ dx us _ ha rf =>
      obtain ⟨w, lw, rw'⟩ := rf.look lk
      exact ⟨_, e, q, C, dx, us, w, rfl, ha, by rw [I.eK]; exact cl, by rw [I.eK]; exact na, lw, hq v G w P H k hh Ex.rfl rw'⟩
/-- x.f = e, x an object that was handed in -/
theorem v_sfldA (I : Is F c b m) (hl : LookV b.nm G.sl x i (.ar j)) (hs : ∀ env, swapsWith e (some (.Attribute (.Name x p) f pos')) pos.line env = pure false)
    (h : WE F B e G (fun d G1 => G1.sl = G.sl ∧ ∃ C fs, G1.ar[j]? = some (.ins C fs) ∧ Cls c.K C ∧ NoAttr c.K C f ∧ fs.length < 1000 ∧ nx { G1 with ar := G1.ar.set j (.ins C (putD f d fs)) }) R.er) : XS F B (.Assign [.Attribute (.Name x p) f pos'] e pos) G nx R := by
  intro σ P H D hh hnx ht hb hc hr
  refine of_ps (t := sFld F.K (tVar i) (eR F.X e) f) (fun cc => ?_) ?_
  · have q := ps_fld (X := F.X cc) (pos := pos) (pos' := pos') (f := f) (name_here (p := p) I.nm hl cc) (eR_pe (e := e) cc) (hs _)
    rw [(F.ok cc).eK] at q
    exact q
  · refine h σ P H _ hh (fun d G1 v P1 H1 w1 h1 x1 r1 => ?_) (fun C fs G' a P' H' => hr C fs G' a σ P' H')
    obtain ⟨es, C, fs, eo, cl, na, ln, k⟩ := w1
    obtain ⟨q, e1, eA, _, o⟩ := h1.getA (by rw [es]; exact hl.at.2) eo
    cases o with
    | @ins _ dx us _ ha rf =>
      exact ⟨_, e1, q, C, dx, us, rfl, ha, by rw [I.eK]; exact cl, by rw [I.eK]; exact na, by rw [rf.length]; exact ln, hnx _ σ P1 _ k (h1.chgA eA eo (.ins upd_same (rf.put r1)))⟩
end
/-! isinstance of own classes -/
structure IsC (K : PySem.W.Frag) (C : Addr) : Prop where
  cl : Cls K C
  ha : PySem.W.findIn K (.ref C) "__class__" = some (some (.builtin "object.__class__"))
  hn : PySem.W.specialIn K (.builtin "object.__class__") "__get__" = some (some (.builtin "getset_descriptor.__get__"))
  ht : PySem.W.takesIn K (.builtin "object.__class__") = some true
  hm : PySem.W.mroIn K C (.type "object") = some true
def isCB (K : PySem.W.Frag) (C : Addr) : Bool := decide (PySem.W.findIn K (.ref C) "__class__" = some (some (.builtin "object.__class__"))) && (decide (PySem.W.specialIn K (.builtin "object.__class__") "__get__" = some (some (.builtin "getset_descriptor.__get__"))) && (decide (PySem.W.takesIn K (.builtin "object.__class__") = some true) && decide (PySem.W.mroIn K C (.type "object") = some true)))
theorem isCB_ok {K : PySem.W.Frag} {C : Addr} (cl : Cls K C) (h : isCB K C = true) : IsC K C := by
  obtain ⟨h1, h⟩ := Bool.and_eq_true_iff.mp h
  obtain ⟨h2, h⟩ := Bool.and_eq_true_iff.mp h
  obtain ⟨h3, h4⟩ := Bool.and_eq_true_iff.mp h
  exact ⟨cl, of_decide_eq_true h1, of_decide_eq_true h2, of_decide_eq_true h3, of_decide_eq_true h4⟩
section
variable {F : Fm} {B : Bs} {G : Gam} {c : Cn} {b : Bd} {m : Bool} {Po : PoE} {Er : ErE} {C U : Addr} {fs : Fs} {r : Bool}
theorem c_isIns (I : Is F c b m) (T : IsC c.K C) (hk : PySem.W.kitOne c.K (.ref C) (.ref U) = some r) (k : Po (.bl r) G) : Cb F B (.builtin "isinstance") [.pu (.ins C fs), .pu (.ref U)] G Po Er := by
  refine cb_of (ds := [.ins C fs, .ref U]) (r := rIsi F.K) (fun cc => ?_) (.cons (.cons .nil)) fun σ P H xs Q hh rl hq => ?_
  · rw [← (F.ok cc).eK]; exact call_isi
  · cases rl with
    | cons r1 r2 =>
      cases r2 with
      | cons r2 r3 =>
        cases r3; cases r2
        cases r1 with
        | ins ha rf =>
          rw [I.eK]
          exact ⟨_, _, _, _, r, rfl, .own U, .base (.ins (hh.ex _ _ ha) T.cl T.ha T.hn T.ht T.hm), hk, hq _ G _ P H k hh Ex.rfl (.bl r)⟩
theorem c_isOwn (I : Is F c b m) {d : D} {t : String} (ht : tyD d = some t) (hk : PySem.W.kitOne c.K (.type t) (.ref U) = some r) (k : Po (.bl r) G) : Cb F B (.builtin "isinstance") [.pu d, .pu (.ref U)] G Po Er := by
  refine cb_of (ds := [d, .ref U]) (r := rIsi F.K) (fun cc => ?_) (.cons (.cons .nil)) fun σ P H xs Q hh rl hq => ?_
  · rw [← (F.ok cc).eK]; exact call_isi
  · cases rl with
    | cons r1 r2 =>
      cases r2 with
      | cons r2 r3 =>
        cases r3; cases r2
        have ty := tyD_ok hh.ex r1 ht
        rw [I.eK] at ty ⊢
        exact ⟨_, _, _, _, r, rfl, .own U, ty, hk, hq _ G _ P H k hh Ex.rfl (.bl r)⟩
end
end TV
/-! Facts of the head: classes that are made. -/
namespace TV
open PySem PySem.Spec PyProof.Rows L2
def conB (K : PySem.W.Frag) (C : Addr) (f : Str) (v : Bool) : Bool := decide (PySem.W.findIn K (.ref C) f = some (some (.bool v))) && (decide (PySem.W.specialIn K (.bool v) "__get__" = some none) && !PySem.W.copiedNames.contains f)
theorem conB_ok {K : PySem.W.Frag} {C : Addr} {f : Str} {v : Bool} (h : conB K C f v = true) : ∃ u, Con K C f (.bl v) u := by
  obtain ⟨h1, h⟩ := Bool.and_eq_true_iff.mp h
  obtain ⟨h2, h3⟩ := Bool.and_eq_true_iff.mp h
  exact ⟨.bool v, of_decide_eq_true h1, rfl, of_decide_eq_true h2, by simpa using h3⟩
theorem mkr_of {c : Cn} {x qual : Str} {C f : Addr} {fd : FuncData} {st : Stmt} {ps : List Str} {nm : Nms} {gl : List Str} {k n : Nat} {T : PT} (M : Mk c.K C f) (g : c.mg x = some (.ref C)) (F : FunD c.K "__init__" qual (defArgs st) (defBody st) (defScope st) [] [] f fd)
    (hb : ∀ (kV doc pm : Value) (an : Option Addr) (cdv ct : Value) (us : List Value), us.length = ps.length → bindArgs (PySem.W.fnOf "__init__" qual (defArgs st) (defBody st) (defScope st) .none kV doc pm an cdv ct) ⟨us, []⟩ = pure (ps.zip us)) (S : FnScope (nm.map (·.1)) ps (defScope st)) (hnm : nmB true (defScope st) nm = true) (hgl : glB (defScope st) gl = true) (hn : ps.length = n) (nodb : (x == ("__debug__" : Str)) = false)
    (body : ∀ (F : Fm) (B : Bs) (args : List Arg) (Po : D → List Ob → Prop) (Er : Addr → Fs → List Ob → Prop), Is F c ⟨nm, gl, defScope st, k⟩ true → F.top = true → T args Po Er → args.length = n → XSs F B (defBody st) (G0 nm args) (fun G => Po .non G.ar) (rsOf Po Er)) : Mkr c (k + 1) x C n T :=
  ⟨⟨f, fd, ps, M, g, F.bindsN hb, hn, fn_ok F.plain S hnm hgl hn fun J X W ok B args Po Er t hl => body _ B args Po Er ⟨rfl, rfl, rfl, rfl, rfl, rfl, rfl, rfl, rfl, rfl⟩ rfl t hl⟩, nodb⟩
end TV
/-! Own specials of an instance: ~x. -/
namespace TV
open PySem PySem.Spec PyProof.Rows L2
theorem special_go {M : Model} {A : Around} {E : Value → Shared → Prop} {s : Shared} {K : PySem.W.Frag} {x C f : Addr} {ox : Obj} {od : Option Obj} {name : Str} {args : List Value} {Q : Option Value → Shared → Prop} (X : K.In s.heap) (J : PySem.W.InstAt s.heap x ox C od) (hs : PySem.W.findIn K (.ref C) name = some (some (.ref f))) (hf : PySem.W.isFn K (.ref f) = true)
    (h : wpAny M A (call (.ref f) (.ref x :: args)) (fun v => Q (some v)) E s) : wpAny M A (callSpecial? (.ref x) name args) Q E s := by
  unfold callSpecial? specialOf
  refine wpAny_bind (wpAny_bind (J.type.here ((PySem.W.looks_findIn X hs).here ?_)))
  refine wpAny_holding (wpAny_bind ((PySem.W.bind_fn X _ (beq_iff_eq.mp hf)).here ?_))
  exact wpAny_bind (wpAny_mono h (fun v s' q => wpAny_pure q) fun _ _ q => q)
/-- a method of an own class: its promise (self first) -/
structure Mth (c : Cn) (k : Nat) (C : Addr) (name : Str) (n : Nat) (T : PT) : Prop where
  ex : ∃ f fd ps, Meth c.K C name f ∧ Binds c.K fd ps [] ∧ ps.length = n ∧ FnOk c.P c.w c.K c.mg c.base (L2.CX c.P c.w) k f fd ps (spOf c.K T n)
section
variable {X : Cx} {k : Nat} {f C : Addr} {fd : FuncData} {ps : List Str} {sp : Sp} {E : L2.St → XK} {pos : Pos} {e : Expr} {te : TE}
end
section
variable {F : Fm} {B : Bs} {G : Gam} {c : Cn} {b : Bd} {Po : PoE} {Er : ErE} {k : Nat} {C : Addr} {T : PT} {pos : Pos} {e : Expr}
end
end TV
/-! Shorter ways: bodies, slots that are forgotten, loops by a part of the state, comprehensions. -/
namespace TV
open PySem PySem.Spec PyProof.Rows L2
/-- a def's body keeps its promise -/
def Body (c : Cn) (nm : Nms) (gl : List Str) (st : Stmt) (lv : Nat) (T : PT) : Prop := ∀ (F : Fm) (B : Bs) (args : List TV.Arg) (Po : D → List Ob → Prop) (Er : Addr → Fs → List Ob → Prop),
  Is F c ⟨nm, gl, defScope st, lv⟩ true → F.top = true → T args Po Er → XSs F B (defBody st) (G0 nm args) (fun G => Po .non G.ar) (rsOf Po Er)
/-! ### slots are forgotten -/
inductive LeL : List Sl → List Sl → Prop
  | nil : LeL [] []
  | same {s : Sl} {l l' : List Sl} : LeL l l' → LeL (s :: l) (s :: l')
  | no {s : Sl} {l l' : List Sl} : LeL l l' → LeL (s :: l) (.no :: l')
structure Le (G G' : Gam) : Prop where
  sl : LeL G.sl G'.sl
  ar : G.ar = G'.ar
theorem LeL.rfl : ∀ {l : List Sl}, LeL l l
  | [] => .nil
  | _ :: _ => .same LeL.rfl
theorem Le.rfl {G : Gam} : Le G G := ⟨LeL.rfl, Eq.refl _⟩
theorem LeL.len : ∀ {l l' : List Sl}, LeL l l' → l.length = l'.length
  | _, _, .nil => Eq.refl _
  | _, _, .same h => congrArg (· + 1) h.len
  | _, _, .no h => congrArg (· + 1) h.len
theorem LeL.app {m : List Sl} : ∀ {l l' : List Sl}, LeL l l' → LeL (l ++ m) (l' ++ m)
  | _, _, .nil => LeL.rfl
  | _, _, .same h => .same h.app
  | _, _, .no h => .no h.app
section
variable {K : PySem.W.Frag} {B : Bs} {P H : Hp}
theorem SlsOk.le : ∀ {σ : L2.St} {l l' : List Sl} {M : List Addr}, SlsOk K B P H σ l M → LeL l l' → ∃ M', SlsOk K B P H σ l' M' ∧ List.Sublist M' M
  | _, _, _, _, .nil, .nil => ⟨[], .nil, List.Sublist.slnil⟩
  | _, _, _, _, .cons (m := m) h r, .same q => by
    obtain ⟨M', h1, h2⟩ := r.le q
    exact ⟨_, .cons h h1, List.Sublist.append (List.Sublist.refl m) h2⟩
  | _, _, _, _, .cons (m := m) h r, .no q => by
    obtain ⟨M', h1, h2⟩ := r.le q
    exact ⟨_, .cons .no h1, h2.trans (List.sublist_append_right m _)⟩
theorem Holds.le {G G' : Gam} {σ : L2.St} (h : Holds K B G σ P H) (q : Le G G') : Holds K B G' σ P H := by
  obtain ⟨M, s, nd⟩ := h.sls
  rw [q.ar] at s
  obtain ⟨M', s', sub⟩ := s.le (q.sl.app (m := regS G'.ar ++ tmS B.T))
  exact ⟨⟨M', s', nd.sublist sub⟩, h.slen.trans q.sl.len, q.ar ▸ h.ars, h.nda, h.a0, h.ex, h.p0, h.h0, h.new⟩
end
section
variable {F : Fm} {B : Bs} {G : Gam} {c : Cn} {b : Bd} {m : Bool} {Po : PoE} {Er : ErE} {nx : Gam → Prop} {R : Rs} {x : Str} {i : Nat} {p pos : Pos} {e d0 tg iter elt : Expr} {st : Stmt} {sts body : List Stmt} {js vs : List Nat} {ds : List D}
/-- a loop: the state ahead of it is G1, in its turns it is f a G1, where Iv j a holds ahead of turn j -/
theorem v_forU (I : Is F c b true) (hs : ∀ env x, foldedSetIterable iter env x = pure x)
    (h : WI F B tg iter G (fun ds G1 => ∃ (A : Type) (f : A → Gam → Gam) (Iv : Nat → A → Prop) (a0 : A), Le G1 (f a0 G1) ∧ Iv 0 a0 ∧
      (∀ B' j d a, ds[j]? = some d → Iv j a → WG F B' tg js d (f a G1) (fun G2 => XSs F B' body G2 (fun G3 => ∃ a', Le G3 (f a' G1) ∧ Iv (j + 1) a') ⟨R.rt, nx, fun G3 => ∃ a', Le G3 (f a' G1) ∧ Iv (j + 1) a', R.er⟩)) ∧
      (∀ a, Iv ds.length a → nx (f a G1))) R.er) : XS F B (.For tg iter body [] pos) G nx R := by
  have key : XS F B (.For tg iter body [] pos) G (fun G1 => ∃ G2, Le G1 G2 ∧ nx G2) R := by
    refine v_for (js := js) I hs ?_
    intro σ P H Rq hh hq hr
    refine h σ P H Rq hh (fun ds G1 J P1 H1 w h1 x1 wk => hq ds G1 J P1 H1 ?_ h1 x1 wk) hr
    obtain ⟨A, f, Iv, a0, l0, i0, st, fin⟩ := w
    refine ⟨fun j G' => ∃ a, Iv j a ∧ Le G' (f a G1), ⟨a0, i0, l0⟩, fun B' j d G' hd ⟨a, ia, la⟩ => ?_, fun G' ⟨a, ia, la⟩ => ⟨_, la, fin a ia⟩⟩
    intro σ2 P2 H2 v Q2 h2 r2 q2
    refine st B' j d a hd ia σ2 P2 H2 v Q2 (h2.le la) r2 (fun G3 σ3 P3 H3 w3 h3 x3 o3 => q2 G3 σ3 P3 H3 ?_ h3 x3 o3)
    exact fun σ P H D hh hn ht hb hc hr => w3 σ P H D hh (fun G' σ' P' H' ⟨a', l', i'⟩ h' => hn G' σ' P' H' ⟨a', i', l'⟩ h') ht (fun G' σ' P' H' w h' => hb G' σ' P' H' ⟨_, Le.rfl, w⟩ h') (fun G' σ' P' H' ⟨a', l', i'⟩ h' => hc G' σ' P' H' ⟨a', i', l'⟩ h') hr
  exact fun σ P H D hh hn ht hb hc hr => key σ P H D hh (fun G' σ' P' H' ⟨G2, q, k⟩ h' => hn G2 σ' P' H' k (h'.le q)) ht hb hc hr
/-! ### comprehensions -/
end
end TV
/-! Classes by their names, the stock, fields, methods, list(range(..)), sums of lists and of tuples. -/
namespace TV
open PySem PySem.Spec PyProof.Rows L2
abbrev ad (c : Cn) (x : Str) : Addr := He.ga c.K x
abbrev iL (xs : List Int) : D := .lst (xs.map D.int)
structure Stk where
  x : Int
  y : Int
  z : Int
  h : 0 ≤ x
abbrev stk (s : Stk) : Ob := .lst [.int s.x, .int s.y, .int s.z]
section
variable {F : Fm} {B : Bs} {G : Gam} {c : Cn} {b : Bd} {m : Bool} {Po : PoE} {Er : ErE} {nx : Gam → Prop} {R : Rs} {x f : Str} {i : Nat} {p pos apos : Pos} {e a : Expr} {es : List Expr} {C : Addr} {fs : Fs} {d v : D}
/-! fields -/
structure FldOk (c : Cn) (d : D) (f : Str) (v : D) : Prop where
  ex : ∃ C fs, d = .ins C fs ∧ Cls c.K C ∧ NoAttr c.K C f ∧ fs.lookup f = some v
theorem fld_of (cl : Cls c.K C) (na : NoAttr c.K C f) (h : fs.lookup f = some v) : FldOk c (.ins C fs) f v := ⟨⟨C, fs, rfl, cl, na, h⟩⟩
theorem v_at (I : Is F c b m) (hb : ∀ env, attributeBase e f env (eval e env) = eval e env) (h : WE F B e G (fun d G1 => ∃ v, FldOk c d f v ∧ Po v G1) Er) : WE F B (.Attribute e f pos) G Po Er := by
  refine v_fld I hb fun σ P H Q hh hq hr => h σ P H Q hh (fun q G' u P' H' w => hq q G' u P' H' ?_) hr
  obtain ⟨v, ⟨C, fs, rfl, cl, na, lk⟩, k⟩ := w
  exact ⟨C, fs, v, rfl, cl, na, lk, k⟩
structure ConOk (c : Cn) (d : D) (f : Str) (v : Bool) : Prop where
  ex : ∃ C fs u, d = .ins C fs ∧ Cls c.K C ∧ Con c.K C f (.bl v) u ∧ fs.lookup f = none
theorem v_atC (I : Is F c b m) (hb : ∀ env, attributeBase e f env (eval e env) = eval e env) (h : WE F B e G (fun d G1 => ∃ v, ConOk c d f v ∧ Po (.bl v) G1) Er) : WE F B (.Attribute e f pos) G Po Er := by
  refine v_conB (bb := true) I hb fun σ P H Q hh hq hr => h σ P H Q hh (fun q G' u P' H' w => hq q G' u P' H' ?_) hr
  obtain ⟨v, ⟨C, fs, u, rfl, cl, na, lk⟩, k⟩ := w
  exact ⟨C, fs, rfl, cl, v, u, na, lk, k⟩
end
/-! methods -/
section
variable {X : Cx} {k : Nat} {f C : Addr} {fd : FuncData} {ps : List Str} {sp : Sp} {E : L2.St → XK} {m : Str} {pos apos : Pos} {e o : Expr} {es : List Expr} {ta : TE} {t : TA}
def tMethS (C : Addr) (m : Str) (sp : Sp) (E : L2.St → XK) (ta : TE) (t : TA) : TE := fun σ H Q => ta σ H fun x H1 => ∃ a dx fs, x = .ref a ∧ H1 a = some (.ins C dx fs) ∧ fs.lookup m = none ∧ t σ H1 fun vs H2 => sp (x :: vs) H2 Q (E σ)
theorem pe_meS {pl : Sem Bool} (he : PE X o ta) (c : Cls X.K C) (hm : Meth X.K C m f) (F : FnOk X.prog X.w X.K X.mg X.base (L2.CX X.prog X.w) k f fd ps sp) (hr : Room k X.A) (hb : Binds X.K fd ps []) (hx : ∀ σ, PassesAt (L2.CX X.prog X.w) X σ (E σ)) (ha : PA X (e :: es) t)
    (hst : starEach (e :: es) X.env = (false, eval e X.env) :: starEach es X.env) (hpl : (backTo pos (starEach es X.env)).any (·.1) = false)
    (ht : eval (.Call (.Attribute o m apos) (e :: es) [] pos) X.env = (do
      let ov ← eval o X.env
      standAt apos.atName
      let (f, first) ← holding [ov] (getMethod ov m pl)
      callWith pos f first (backTo pos (starEach (e :: es) X.env)) (backToKw pos (keywordEach [] X.env)))) :
    PE X (.Call (.Attribute o m apos) (e :: es) [] pos) (tMethS C m sp E ta t) := by
  refine ⟨fun pins s σ H Q I h => ?_⟩
  refine PySem.W.methodCall_KW (pl := pl) (thn (he.run pins s σ H _ I h) fun u s1 ⟨x, H1, I1, rx, a, dx, fs, ex, ea, l, q⟩ => ?_) ht
  subst ex
  obtain rfl : u = Value.ref a := rx
  refine getmeth_ok I1 ea c hm l ?_
  refine PySem.W.callWith_K (first := [.ref a]) (h₀ := X.base) I.ok.mod.kin hm.kp (thn (ha.run pos pins s1 σ H1 _ I1 q) fun us s2 ⟨vs, H2, I2, r, q2⟩ => ⟨I2.kIn, ?_⟩) hst hpl
  exact run_fnS (us := .ref a :: us) (vs := .ref a :: vs) F hr hb (hx σ) I2 (.cons rfl r) q2
theorem pe_meS0 {pl : Sem Bool} (he : PE X o ta) (c : Cls X.K C) (hm : Meth X.K C m f) (F : FnOk X.prog X.w X.K X.mg X.base (L2.CX X.prog X.w) k f fd ps sp) (hr : Room k X.A) (hb : Binds X.K fd ps []) (hx : ∀ σ, PassesAt (L2.CX X.prog X.w) X σ (E σ))
    (ht : eval (.Call (.Attribute o m apos) [] [] pos) X.env = (do
      let ov ← eval o X.env
      standAt apos.atName
      let (f, first) ← holding [ov] (getMethod ov m pl)
      callWith pos f first (backTo pos (starEach [] X.env)) (backToKw pos (keywordEach [] X.env)))) :
    PE X (.Call (.Attribute o m apos) [] [] pos) (tMethS C m sp E ta tNil) := by
  refine ⟨fun pins s σ H Q I h => ?_⟩
  refine PySem.W.methodCall_KW (pl := pl) (thn (he.run pins s σ H _ I h) fun u s1 ⟨x, H1, I1, rx, a, dx, fs, ex, ea, l, q⟩ => ?_) ht
  subst ex
  obtain rfl : u = Value.ref a := rx
  refine getmeth_ok I1 ea c hm l ?_
  exact PySem.W.callWith_K0 (first := [.ref a]) I1.kIn hm.kp (run_fnS (us := [.ref a]) (vs := [.ref a]) F hr hb (hx σ) I1 (.cons rfl .nil) q)
end
section
variable {F : Fm} {B : Bs} {G : Gam} {c : Cn} {b : Bd} {Po : PoE} {Er : ErE} {k n : Nat} {C : Addr} {T : PT} {pos apos : Pos} {e o : Expr} {es : List Expr} {mn : Str}
theorem mth_of {c : Cn} {name qual : Str} {C f : Addr} {fd : FuncData} {st : Stmt} {ps : List Str} {nm : Nms} {gl : List Str} {k n : Nat} {T : PT} (M : Meth c.K C name f) (F : FunD c.K name qual (defArgs st) (defBody st) (defScope st) [] [] f fd)
    (hb : ∀ (kV doc pm : Value) (an : Option Addr) (cdv ct : Value) (us : List Value), us.length = ps.length → bindArgs (PySem.W.fnOf name qual (defArgs st) (defBody st) (defScope st) .none kV doc pm an cdv ct) ⟨us, []⟩ = pure (ps.zip us)) (S : FnScope (nm.map (·.1)) ps (defScope st)) (hnm : nmB true (defScope st) nm = true) (hgl : glB (defScope st) gl = true) (hn : ps.length = n)
    (body : ∀ (F : Fm) (B : Bs) (args : List TV.Arg) (Po : D → List Ob → Prop) (Er : Addr → Fs → List Ob → Prop), Is F c ⟨nm, gl, defScope st, k⟩ true → F.top = true → T args Po Er → args.length = n → XSs F B (defBody st) (G0 nm args) (fun G => Po .non G.ar) (rsOf Po Er)) : Mth c (k + 1) C name n T :=
  ⟨⟨f, fd, ps, M, F.bindsN hb, hn, fn_ok F.plain S hnm hgl hn fun J X W ok B args Po Er t hl => body _ B args Po Er ⟨rfl, rfl, rfl, rfl, rfl, rfl, rfl, rfl, rfl, rfl⟩ rfl t hl⟩⟩
end
/-! list(range(..)) -/
section
variable {F : Fm} {B : Bs} {G : Gam} {c : Cn} {b : Bd} {Po : PoE} {Er : ErE} {p p2 pos pos2 : Pos} {a e : Expr}
def rgD (lo hi : Int) : List D := (List.range (hi - lo).toNat).map fun i => D.int (lo + (i : Nat))
theorem rgD_rp {K : PySem.W.Frag} {P : Hp} (lo hi : Int) : RpL K P (rgV lo hi) (rgD lo hi) := by
  unfold rgV rgD
  generalize List.range (hi - lo).toNat = l
  induction l with
  | nil => exact .nil
  | cons x l ih => exact .cons (.int _) ih
theorem v_lrange1 (I : Is F c b true) (hm1 : c.mg "list" = none) (hg1 : InL "list" b.gl) (hm : c.mg "range" = none) (hg : InL "range" b.gl) (hs : ∀ env, starEach [a] env = (false, eval a env) :: starEach [] env) (hs2 : ∀ env, starEach [.Call (.Name "range" p2) [a] [] pos2] env = (false, eval (.Call (.Name "range" p2) [a] [] pos2) env) :: starEach [] env)
    (h : WE F B a G (fun d G1 => ∃ n : Int, d = .int n ∧ (-100000 ≤ n ∧ n ≤ 100000) ∧ Po (.lst (rgD 0 n)) G1) Er) : WE F B (.Call (.Name "list" p) [.Call (.Name "range" p2) [a] [] pos2] [] pos) G Po Er := by
  intro σ P H Q hh hq hr
  refine of_pe (t := tLstRg (tRg1 (eR F.X a))) (fun cc => ?_) ?_
  · have Cx := F.ok cc
    exact pe_listRg (Cx.calm.trans I.cm) (Cx.glo _ (I.here hg1)) (by rw [Cx.emg, I.em]; exact hm1) (prg_1 (Cx.glo _ (I.here hg)) (by rw [Cx.emg, I.em]; exact hm) (eR_pe cc) (hs _)) (hs2 _)
  · refine h σ P H _ hh (fun d G1 v P1 H1 w1 h1 x1 r1 => ?_) hr
    obtain ⟨n, rfl, hn, k⟩ := w1
    cases r1
    refine ⟨n, rfl, ⟨by omega, by omega, by omega, by omega, by omega⟩, fun q hq' => ?_⟩
    obtain ⟨h2, x2⟩ := h1.newP (o := .lst (rgV 0 n)) hq'
    exact hq _ G1 _ _ _ k h2 (x1.trans x2) (.lst (.inl (.inl upd_same)) (rgD_rp 0 n))
theorem v_lrange2 (I : Is F c b true) (hm1 : c.mg "list" = none) (hg1 : InL "list" b.gl) (hm : c.mg "range" = none) (hg : InL "range" b.gl) (hs : ∀ env, starEach [a, e] env = (false, eval a env) :: starEach [e] env) (hs1 : ∀ env, starEach [e] env = (false, eval e env) :: starEach [] env) (hpl : ∀ env, (backTo pos2 (starEach [e] env)).any (·.1) = false)
    (hs2 : ∀ env, starEach [.Call (.Name "range" p2) [a, e] [] pos2] env = (false, eval (.Call (.Name "range" p2) [a, e] [] pos2) env) :: starEach [] env)
    (h : WE F B a G (fun d G1 => WE F B e G1 (fun d2 G2 => ∃ lo hi : Int, d = .int lo ∧ d2 = .int hi ∧ (-100000 ≤ lo ∧ lo ≤ 100000 ∧ -100000 ≤ hi ∧ hi ≤ 100000) ∧ Po (.lst (rgD lo hi)) G2) Er) Er) : WE F B (.Call (.Name "list" p) [.Call (.Name "range" p2) [a, e] [] pos2] [] pos) G Po Er := by
  intro σ P H Q hh hq hr
  refine of_pe (t := tLstRg (tRg2 (eR F.X a) (eR F.X e))) (fun cc => ?_) ?_
  · have Cx := F.ok cc
    exact pe_listRg (Cx.calm.trans I.cm) (Cx.glo _ (I.here hg1)) (by rw [Cx.emg, I.em]; exact hm1) (prg_2 (Cx.glo _ (I.here hg)) (by rw [Cx.emg, I.em]; exact hm) (eR_pe cc) (eR_pe cc) (hs _) (hs1 _) (hpl _)) (hs2 _)
  · refine h σ P H _ hh (fun d G1 v P1 H1 w1 h1 x1 r1 => w1 σ P1 H1 _ h1 (fun d2 G2 v2 P2 H2 w2 h2 x2 r2 => ?_) hr) hr
    obtain ⟨lo, hi, rfl, rfl, hn, k⟩ := w2
    cases r1
    cases r2
    refine ⟨lo, hi, rfl, rfl, ⟨by omega, by omega, by omega, by omega, by omega⟩, fun q hq' => ?_⟩
    obtain ⟨h3, x3⟩ := h2.newP (o := .lst (rgV lo hi)) hq'
    exact hq _ G2 _ _ _ k h3 (x1.trans (x2.trans x3)) (.lst (.inl (.inl upd_same)) (rgD_rp lo hi))
end
end TV
/-! enumerate over lists and tuples; sums of lists and of tuples. -/
namespace TV
open PySem PySem.Spec PyProof.Rows L2
section
variable {prog : Program} {w : World} {A : Around} {E : Value → Shared → Prop} {s : Shared}
end
section
variable {F : Fm} {B : Bs} {G : Gam} {c : Cn} {b : Bd} {m : Bool} {Er : ErE} {e1 : Expr} {p pos tpos : Pos} {elts : List Expr} {kk : Nat} {Pw : List D → Gam → Prop}
end
/-! sums -/
theorem q_addL (l b : Addr) (items items2 : Array Value) (n n2 : Nat) (d d2 : Option Addr) (sl sl2 : Array (Option Value)) (hc0 : items.size + items2.size ≤ sizeLine) :
    Meets (Builtin.«list.__add__» ⟨[.ref l, .ref b], []⟩) (fun _ R s => s.heap.get? l = some { cls := .type "list", dict := d, data := .seq items n, slots := sl } ∧ s.heap.get? b = some { cls := .type "list", dict := d2, data := .seq items2 n2, slots := sl2 } ∧ R (.ok (.ret (Value.ref s.heap.objs.size))) { s with heap := s.heap.push { cls := Value.type "list", data := Data.seq (items ++ items2) }, toks := s.toks }) :=
  .of_wp fun prog w A R s h => by obtain ⟨hp, g, d, tk, os⟩ := s; obtain ⟨hl, hb, h⟩ := h; have f1 := AutoSeq1.sub_list_list; wp_walk using AutoSeq1.wpAny_loadPart' hl, AutoSeq1.wpAny_loadPart' hb; exact ⟨_, rfl, h⟩
section
variable {X : Cx}
theorem op_catL : OpR X (binaryOp .Add) (fun x y H Q => ∃ a b xs ys, x = .ref a ∧ y = .ref b ∧ SqL X.K H a xs ∧ SqL X.K H b ys ∧ xs.length + ys.length ≤ 200000 ∧ ∀ p, H p = none → Q (.ref p) (upd H p (.lst (xs ++ ys)))) := by
  intro pins s σ H x y v u Q I rx ry h
  obtain ⟨a, b, xs, ys, rfl, rfl, ha, hb, hz, q⟩ := h
  cases rx
  cases ry
  obtain ⟨its, r1, ⟨⟨c1, d1, t1, sl1⟩, n1, e1, hc1, hd1, hs1⟩, z1⟩ := I.list ha
  obtain ⟨its2, r2, ⟨⟨c2, d2, t2, sl2⟩, n2, e2, hc2, hd2, hs2⟩, z2⟩ := I.list hb
  dsimp only at hc1 hd1 hs1 hc2 hd2 hs2
  subst hc1 hs1 hc2 hs2
  have l1 := r1.length
  have l2 := r2.length
  have sz : its.toArray.size + its2.toArray.size ≤ sizeLine := by rw [List.size_toArray, List.size_toArray, sizeLine_eq]; omega
  refine concat_meets ⟨_, e1, rfl⟩ ⟨_, e2, rfl⟩ noFill_list_add seq_list_add F.slot_list_add F.entry_list_add (F.args_list_add_2 _ _) (q_addL a b its.toArray its2.toArray n1 n2 d1 d2 sl1 sl2 sz) ⟨e1, e2, ?_⟩
  have ea : its.toArray ++ its2.toArray = (its ++ its2).toArray := by simp
  rw [ea]
  exact ⟨.ref _, _, I.lnew (t' := s.toks) (r1.append r2) (by rw [List.length_append, sizeLine_eq]; omega), rfl, q _ I.fresh⟩
end
section
variable {F : Fm} {B : Bs} {G : Gam} {Po : PoE}
theorem o_catL {xs ys : List D} (hz : xs.length + ys.length ≤ 200000) (k : Po (.lst (xs ++ ys)) G) : Op F B (binaryOp .Add) (.lst xs) (.lst ys) G Po := by
  refine op_of (r := fun x y H Q => ∃ a b xs ys, x = .ref a ∧ y = .ref b ∧ SqL F.K H a xs ∧ SqL F.K H b ys ∧ xs.length + ys.length ≤ 200000 ∧ ∀ p, H p = none → Q (.ref p) (upd H p (.lst (xs ++ ys)))) (fun c => ?_) fun σ P H x y Q hh r1 r2 hq => ?_
  · rw [← (F.ok c).eK]; exact op_catL
  · cases r1 with
    | lst s1 l1 =>
      cases r2 with
      | lst s2 l2 =>
        refine ⟨_, _, _, _, rfl, rfl, hh.ex.sqL s1, hh.ex.sqL s2, by rw [l1.length, l2.length]; exact hz, fun p hp => ?_⟩
        obtain ⟨h2, x2⟩ := hh.newP (o := .lst _) hp
        exact hq _ G _ _ _ k h2 x2 (.lst (.inl (.inl upd_same)) ((l1.append l2).mono x2))
theorem o_catT {xs ys : List D} (hn : xs ≠ []) (hz : xs.length + ys.length ≤ 200000) (k : Po (.tup (xs ++ ys)) G) : Op F B (binaryOp .Add) (.tup xs) (.tup ys) G Po := by
  refine op_of (r := rCatT F.K) (fun c => ?_) fun σ P H x y Q hh r1 r2 hq => ?_
  · rw [← (F.ok c).eK]; exact op_catT
  · cases r1 with
    | @tup a vs1 _ s1 l1 =>
      cases r2 with
      | @tup b vs2 _ s2 l2 =>
        refine ⟨_, _, _, _, rfl, rfl, hh.ex.sqT s1, hh.ex.sqT s2, fun z => hn ?_, by rw [l1.length, l2.length, sizeLine_eq]; omega, fun z => ?_, fun z p hp => ?_⟩
        · subst z; cases l1; rfl
        · subst z
          cases l2
          rw [List.append_nil] at k
          exact hq _ G _ P H k hh Ex.rfl (.tup s1 l1)
        · obtain ⟨h2, x2⟩ := hh.newP (o := .tup _) hp
          exact hq _ G _ _ _ k h2 x2 (.tup (.inl (.inl upd_same)) ((l1.append l2).mono x2))
end
end TV
/-! Promises of the laws' own words that stand in many laws; places; flags. -/
namespace TV
open PySem PySem.Spec PyProof.Rows L2
section
variable {F : Fm} {B : Bs} {G : Gam} {Po : PoE}
theorem eqD_bl (a b : Bool) : eqD (.bl a) (.bl b) = (a == b) := by cases a <;> cases b <;> rfl
theorem o_eqB {a b : Bool} (k : Po (.bl (a == b)) G) : Op F B (compareOp .Eq) (.bl a) (.bl b) G Po := o_eqD (by rfl) (by rfl) (by rw [eqD_bl]; exact k)
theorem o_neB {a b : Bool} (k : Po (.bl (!(a == b))) G) : Op F B (compareOp .NotEq) (.bl a) (.bl b) G Po := o_neD (by rfl) (by rfl) (by rw [eqD_bl]; exact k)
theorem o_neSame {d : D} (h : okD d = true) (k : Po (.bl false) G) : Op F B (compareOp .NotEq) d d G Po := o_neD h h (by rw [okD_refl h]; exact k)
theorem o_eqSame {d : D} (h : okD d = true) (k : Po (.bl true) G) : Op F B (compareOp .Eq) d d G Po := o_eqD h h (by rw [okD_refl h]; exact k)
end
/-! places -/
theorem at_ints {ns : List Int} {x : Int} (h0 : 0 ≤ x) (h1 : x < (ns.map D.int).length) : ∃ n, atI (ns.map D.int) x = some (.int n) := by
  rw [List.length_map] at h1
  unfold atI ixN
  simp only [List.length_map]
  rw [if_pos (by omega), if_pos (by omega)]
  have : x.toNat < ns.length := by omega
  exact ⟨ns[x.toNat], by simp [this]⟩
theorem range_at {n j : Nat} {d : D} (hd : ((List.range n).map fun i => D.int (i : Nat))[j]? = some d) : j < n ∧ d = D.int (j : Nat) := by
  have hj : j < n := by
    have := (List.getElem?_eq_some_iff.mp hd).1
    simpa using this
  rw [List.getElem?_map, List.getElem?_range hj] at hd
  exact ⟨hj, by simpa using hd.symm⟩
theorem rgD_len (lo hi : Int) : (rgD lo hi).length = (hi - lo).toNat := by unfold rgD; simp
/-! the laws' draws -/
def T_take (c : Cn) : PT := fun args Po _ => ∃ (ns : List Int) (s : Stk) (n : Int), args = [.pu (iL ns), .ar (stk s), .pu (.int n)] ∧ (0 < n ∧ n < 1073741824) ∧ ∀ (r : Int) (s' : Stk), 0 ≤ r → r < n → Po (.int r) [stk s']
def T_number (c : Cn) : PT := fun args Po _ => ∃ (ns : List Int) (s : Stk), args = [.pu (iL ns), .ar (stk s)] ∧ ∀ (r : Int) (s' : Stk), Po (.int r) [stk s']
def T_menu (c : Cn) : PT := fun args Po _ => ∃ (ns : List Int) (s : Stk) (n : Int), args = [.pu (iL ns), .ar (stk s), .pu (.int n)] ∧ (0 ≤ n ∧ n ≤ 100) ∧ ∀ (l : List Int) (s' : Stk), l.length = n.toNat → Po (iL l) [stk s']
def T_settings (c : Cn) : PT := fun args Po _ => ∃ (ns : List Int) (s : Stk) (m n wd : Int), args = [.pu (iL ns), .ar (stk s), .pu (.int m), .pu (.int n), .pu (.int wd)] ∧ (0 ≤ m ∧ m ≤ 100) ∧ (0 ≤ n ∧ n ≤ 100) ∧ (1 ≤ wd ∧ wd ≤ 90) ∧ ∀ (rs : List (List Int)) (s' : Stk), rs.length = n.toNat → (∀ r, r ∈ rs → r.length = m.toNat) → Po (.lst (rs.map iL)) [stk s']
/-! conditions -/
def cond (c : Cn) (L : Bool) (d n : Int) : D := .ins (if L = true then ad c "AtLeast" else ad c "AtMost") [("dial", .int d), ("number", .int n)]
def mt (L : Bool) (s n : Int) : Bool := if L = true then decide (n ≤ s) else decide (s ≤ n)
def opn (L : Bool) (n : Int) : Int := if L = true then n - 1 else n + 1
section
variable {F : Fm} {B : Bs} {G : Gam} {c : Cn} {b : Bd} {m : Bool} {nx : Gam → Prop} {R : Rs} {i : Nat}
end
abbrev Row := Int × Bool × Int
abbrev rowD (r : Row) : D := .tup [.int r.1, .bl r.2.1, .int r.2.2]
/-! rows of numbers -/
end TV
/-! Comprehensions that draw; loops. -/
namespace TV
open PySem PySem.Spec PyProof.Rows L2
section
variable {F : Fm} {B : Bs} {G : Gam} {c : Cn} {b : Bd} {m : Bool} {nx : Gam → Prop} {R : Rs} {i : Nat}
end
theorem u_neg {F : Fm} {B : Bs} {G : Gam} {Po : PoE} {i : Int} (k : Po (.int (-i)) G) : Un1 F B (unaryOp .USub) (.int i) G Po := fun σ P H x Q hh r hq => by
  cases r
  exact of_un (r := rU fun i => .int (-i)) (fun c => un_neg) ⟨i, rfl, hq _ G _ P H k hh Ex.rfl (.int _)⟩
def T_law : PT := fun args Po _ => ∃ ns : List Int, args = [.pu (iL ns)] ∧ Po (.bl true) []
section
variable {F F' : Fm} {B : Bs} {G G1 : Gam} {c : Cn} {b : Bd} {Po : PoE} {Er : ErE} {nx : Gam → Prop} {R : Rs} {pos : Pos} {tg iter elt : Expr} {body : List Stmt} {js vs : List Nat} {ds : List D}
/-- a loop over plain items: between the turns the state is f a, Iv j a -/
theorem v_loop (A : Type) (f : A → Gam) (Iv : Nat → A → Prop) (I : Is F c b true) (hs : ∀ env x, foldedSetIterable iter env x = pure x)
    (h : WI F B tg iter G (fun ds G1 => ∃ a0 : A, Le G1 (f a0) ∧ Iv 0 a0 ∧
      (∀ B' j d a, ds[j]? = some d → Iv j a → WG F B' tg js d (f a) (fun G2 => XSs F B' body G2 (fun G3 => ∃ a', Le G3 (f a') ∧ Iv (j + 1) a') ⟨R.rt, nx, fun G3 => ∃ a', Le G3 (f a') ∧ Iv (j + 1) a', R.er⟩)) ∧
      (∀ a, Iv ds.length a → nx (f a))) R.er) : XS F B (.For tg iter body [] pos) G nx R := by
  refine v_forU (js := js) I hs ?_
  intro σ P H Rq hh hq hr
  refine h σ P H Rq hh (fun ds G1 J P1 H1 w h1 x1 wk => hq ds G1 J P1 H1 ?_ h1 x1 wk) hr
  obtain ⟨a0, l0, i0, st, fin⟩ := w
  exact ⟨A, fun a _ => f a, Iv, a0, l0, i0, st, fin⟩
end
end TV
/-! Specials of one of two classes. -/
namespace TV
open PySem PySem.Spec PyProof.Rows L2
def smp : D → Bool
  | .non => true
  | .bl _ => true
  | .int _ => true
  | .str x => PyData.strOk x
  | _ => false
theorem smp_ok : ∀ {ds : List D}, ds.all smp = true → flatDs ds = true ∧ PyData.canLayAll0 (toPys ds) = true ∧ PyData.depthAll (toPys ds) = 0
  | [], _ => ⟨rfl, rfl, rfl⟩
  | d :: ds, h => by
    rw [List.all_cons, Bool.and_eq_true] at h
    obtain ⟨h1, h2, h3⟩ := smp_ok h.2
    cases d with
    | non => simp [flatDs, flatD, toPys, toPy, PyData.canLayAll0, PyData.canLay0, PyData.depthAll, PyData.depth, h1, h2, h3]
    | bl b => simp [flatDs, flatD, toPys, toPy, PyData.canLayAll0, PyData.canLay0, PyData.depthAll, PyData.depth, h1, h2, h3]
    | int i => simp [flatDs, flatD, toPys, toPy, PyData.canLayAll0, PyData.canLay0, PyData.depthAll, PyData.depth, h1, h2, h3]
    | str x =>
      have hx : PyData.strOk x = true := h.1
      simp [flatDs, flatD, toPys, toPy, PyData.canLayAll0, PyData.canLay0, PyData.depthAll, PyData.depth, h1, h2, h3, hx]
    | ty n => cases h.1
    | ref a => cases h.1
    | emp => cases h.1
    | tux xs => cases h.1
    | tup xs => cases h.1
    | lst xs => cases h.1
    | ins C fs => cases h.1
theorem ok_tupS {ds : List D} (h : ds.all smp = true) : okD (.tup ds) = true := by
  obtain ⟨h1, h2, h3⟩ := smp_ok h
  simp [okD, flatD, SeqAt.shaped, toPy, PyData.canLay0, PyData.depth, h1, h2, h3]
theorem ok_lstS {ds : List D} (h : ds.all smp = true) : okD (.lst ds) = true := by
  obtain ⟨h1, h2, h3⟩ := smp_ok h
  simp [okD, flatD, SeqAt.shaped, toPy, PyData.canLay0, PyData.depth, h1, h2, h3]
section
variable {F : Fm} {B : Bs} {G : Gam} {Po : PoE}
theorem o_eqSY {x : Str} (k : Po (.bl true) G) : Op F B (compareOp .Eq) (.str x) (.str x) G Po := o_eqS (by rw [decide_eq_true (Eq.refl x)]; exact k)
theorem o_eqSN {x y : Str} (h : x ≠ y) (k : Po (.bl false) G) : Op F B (compareOp .Eq) (.str x) (.str y) G Po := o_eqS (by rw [decide_eq_false h]; exact k)
theorem o_neSY {x : Str} (k : Po (.bl false) G) : Op F B (compareOp .NotEq) (.str x) (.str x) G Po := o_neS (by rw [decide_eq_true (Eq.refl x)]; exact k)
theorem o_neSN {x y : Str} (h : x ≠ y) (k : Po (.bl true) G) : Op F B (compareOp .NotEq) (.str x) (.str y) G Po := o_neS (by rw [decide_eq_false h]; exact k)
end
section
variable {X : Cx} {k k2 : Nat} {f f2 C C2 : Addr} {fd fd2 : FuncData} {ps ps2 : List Str} {sp sp2 : Sp} {E : L2.St → XK} {pos : Pos} {e : Expr} {te : TE}
theorem pe_inv2 (hs : PySem.W.findIn X.K (.ref C) "__invert__" = some (some (.ref f))) (hf : PySem.W.isFn X.K (.ref f) = true) (Fo : FnOk X.prog X.w X.K X.mg X.base (L2.CX X.prog X.w) k f fd ps sp) (hr : Room k X.A) (hb : Binds X.K fd ps [])
    (hs2 : PySem.W.findIn X.K (.ref C2) "__invert__" = some (some (.ref f2))) (hf2 : PySem.W.isFn X.K (.ref f2) = true) (Fo2 : FnOk X.prog X.w X.K X.mg X.base (L2.CX X.prog X.w) k2 f2 fd2 ps2 sp2) (hr2 : Room k2 X.A) (hb2 : Binds X.K fd2 ps2 []) (hx : ∀ σ, PassesAt (L2.CX X.prog X.w) X σ (E σ)) (he : PE X e te) :
    PE X (.UnaryOp .Invert e pos) (fun σ H Q => te σ H fun x H1 => ∃ a dx us, x = .ref a ∧ ((H1 a = some (.ins C dx us) ∧ sp [x] H1 Q (E σ)) ∨ (H1 a = some (.ins C2 dx us) ∧ sp2 [x] H1 Q (E σ)))) := by
  refine ⟨fun pins s σ H Q I h => UnaryOp_ (thn (he.run pins s σ H _ I h) fun v s1 ⟨x, H1, I1, r1, a, dx, us, ex, q⟩ => ?_)⟩
  subst ex
  obtain rfl : v = Value.ref a := r1
  unfold unaryOp
  refine wpAny_holding ?_
  refine wpAny_ite ?_
  rw [if_neg (by decide)]
  rcases q with ⟨ea, q⟩ | ⟨ea, q⟩
  · obtain ⟨mA, J, _⟩ := ins_get I1.hok ea
    obtain ⟨od, J, _⟩ := J.look
    refine wpAny_bind (special_go (args := []) I1.kIn J hs hf ?_)
    refine wpAny_mono (run_fnS (vs := [V.ref a]) Fo hr hb (hx σ) I1 (.cons rfl .nil) q) (fun u s2 z => ?_) fun _ _ z => z
    exact wpAny_pure z
  · obtain ⟨mA, J, _⟩ := ins_get I1.hok ea
    obtain ⟨od, J, _⟩ := J.look
    refine wpAny_bind (special_go (args := []) I1.kIn J hs2 hf2 ?_)
    refine wpAny_mono (run_fnS (vs := [V.ref a]) Fo2 hr2 hb2 (hx σ) I1 (.cons rfl .nil) q) (fun u s2 z => ?_) fun _ _ z => z
    exact wpAny_pure z
end
section
variable {F : Fm} {B : Bs} {G : Gam} {c : Cn} {b : Bd} {Po : PoE} {Er : ErE} {k k2 : Nat} {C C2 : Addr} {T T2 : PT} {pos : Pos} {e : Expr}
theorem fn_at {m : Bool} (I : Is F c b m) {n : Nat} {f : Addr} {fd : FuncData} {ps : List Str} {sp : Sp} (ok : FnOk c.P c.w c.K c.mg c.base (L2.CX c.P c.w) n f fd ps sp) (cc : F.J) : FnOk (F.X cc).prog (F.X cc).w (F.X cc).K (F.X cc).mg (F.X cc).base (L2.CX (F.X cc).prog (F.X cc).w) n f fd ps sp := by
  have Cx := F.ok cc
  rw [Cx.eP, Cx.ew, Cx.eK, Cx.emg, Cx.eb, I.eP, I.ew, I.eK, I.em, I.eb]; exact ok
/-- what a call of a promise that changes nothing gives -/
theorem sp_at {T : PT} {n : Nat} {as : List TV.Arg} {xs : List V} {σ : L2.St} {P H P0 : Hp} {Q : VK} (hh : Holds F.K B G σ P H) (x0 : Ex P0 P) (ao : ArgsOk F.K P H xs as []) (hn : xs.length = n) (t : T as (fun d' _ => Po d' G) (fun C' fs' _ => Er C' fs' G))
    (hq : ∀ d G' v P' H', Po d G' → Holds F.K B G' σ P' H' → Ex P0 P' → Rp F.K P' v d → Q v H') (hr : ∀ C fs G' a P' H', Er C fs G' → HoldsX F.K B G' σ P' H' a fs → F.W (.ref C) a σ H') : spOf F.K T n xs H Q (L2.WE F.W σ) := by
  refine ⟨as, [], P, _, _, hn, ao, List.nodup_nil, hh.ex, t, fun d' obs v' P' H' sl σ' po h' rv => ?_, fun C' fs' obs a' P' H' sl σ' er h' => ?_⟩
  · obtain ⟨z1, z2⟩ := hh.call0 h'
    exact hq d' G v' P' H' po z1 (x0.trans z2) rv
  · exact hr C' fs' G a' P' H' er (HoldsX.call0 hh h')
theorem v_inv2 (I : Is F c b true) (M : Mth c k C "__invert__" 1 T) (M2 : Mth c k2 C2 "__invert__" 1 T2) (hk : k ≤ b.lv) (hk2 : k2 ≤ b.lv)
    (h : WE F B e G (fun d G1 => (∃ fs, d = .ins C fs ∧ T [.pu (.ins C fs)] (fun d' _ => Po d' G1) (fun C' fs' _ => Er C' fs' G1)) ∨ (∃ fs, d = .ins C2 fs ∧ T2 [.pu (.ins C2 fs)] (fun d' _ => Po d' G1) (fun C' fs' _ => Er C' fs' G1))) Er) : WE F B (.UnaryOp .Invert e pos) G Po Er := by
  obtain ⟨f, fd, ps, ⟨hs, hf, _⟩, hb, hl, ok⟩ := M.ex
  obtain ⟨f2, fd2, ps2, ⟨hs2, hf2, _⟩, hb2, hl2, ok2⟩ := M2.ex
  intro σ P H Q hh hq hr
  refine of_pe (t := fun σ H Q => eR F.X e σ H fun x H1 => ∃ a dx us, x = .ref a ∧ ((H1 a = some (.ins C dx us) ∧ spOf F.K T 1 [x] H1 Q (L2.WE F.W σ)) ∨ (H1 a = some (.ins C2 dx us) ∧ spOf F.K T2 1 [x] H1 Q (L2.WE F.W σ)))) (fun cc => ?_) ?_
  · have Cx := F.ok cc
    have o1 := fn_at I ok cc
    have o2 := fn_at I ok2 cc
    rw [← I.eK] at o1 o2
    exact pe_inv2 (by rw [Cx.eK, I.eK]; exact hs) (by rw [Cx.eK, I.eK]; exact hf) o1 ((Cx.room I.cm).mono (by rw [I.lv]; exact hk)) (by rw [Cx.eK, I.eK]; exact hb) (by rw [Cx.eK, I.eK]; exact hs2) (by rw [Cx.eK, I.eK]; exact hf2) o2 ((Cx.room I.cm).mono (by rw [I.lv]; exact hk2)) (by rw [Cx.eK, I.eK]; exact hb2) (fun σ => passAt Cx.tk σ) (eR_pe cc)
  · refine h σ P H _ hh (fun d G1 v P1 H1 w1 h1 x1 r1 => ?_) hr
    rcases w1 with ⟨fs, rfl, t⟩ | ⟨fs, rfl, t⟩
    · have r0 := r1
      cases r1 with
      | @ins a _ dx us _ ha rf =>
        exact ⟨a, dx, us, rfl, .inl ⟨h1.ex _ _ ha, sp_at h1 x1 (.pu r0 .nil) rfl t hq hr⟩⟩
    · have r0 := r1
      cases r1 with
      | @ins a _ dx us _ ha rf =>
        exact ⟨a, dx, us, rfl, .inr ⟨h1.ex _ _ ha, sp_at h1 x1 (.pu r0 .nil) rfl t hq hr⟩⟩
end
end TV
/-! Votes, plans; list(x) of one's own; x in xs; targets of two and three names. -/
namespace TV
open PySem PySem.Spec PyProof.Rows L2
/-! votes -/
/-! targets -/
section
variable {F : Fm} {B : Bs} {G : Gam} {c : Cn} {b : Bd} {m : Bool} {Po : PoE} {Er : ErE} {x y z : Str} {i j k n : Nat} {p p1 p2 p3 pos : Pos} {e : Expr} {d1 d2 d3 : D} {Pg : Gam → Prop} {sl sl2 sl3 : List Sl}
theorem c_intB {t : Bool} (k : Po (.int (if t then 1 else 0)) G) : Cb F B (.type "int") [.pu (.bl t)] G Po Er := by
  refine cb_of (ds := [.bl t]) (fun c => call_int1) (.cons .nil) fun σ P H xs Q hh rl hq => ?_
  cases rl with
  | cons r1 r2 =>
    cases r2; cases r1
    exact .inr ⟨t, rfl, hq _ G _ P H k hh Ex.rfl (.int _)⟩
end
/-! plans -/
abbrev V3 := Int × Int × Int
def l3 (v : V3) : List Int := [v.1, v.2.1, v.2.2]
end TV
/-! Comprehensions by plain functions; runs of plans. -/
namespace TV
open PySem PySem.Spec PyProof.Rows L2
section
variable {F' : Fm} {G1 : Gam} {tg elt t : Expr} {js vs : List Nat} {ds : List D} {PoO : Ob → Gam → Prop}
end
/-! runs of plans -/
end TV
/-! Own ==, +, len, and calls of an instance. -/
namespace TV
open PySem PySem.Spec PyProof.Rows L2
section
variable {X : Cx} {k : Nat} {f C : Addr} {fd : FuncData} {ps : List Str} {sp : Sp} {E : L2.St → XK} {pos : Pos}
end
section
variable {F : Fm} {B : Bs} {G : Gam} {c : Cn} {b : Bd} {Po : PoE} {Er : ErE} {k n : Nat} {C : Addr} {T : PT} {pos : Pos} {e1 e2 : Expr}
end
/-! x(e, ..) of an instance -/
section
variable {F : Fm} {B : Bs} {G : Gam} {c : Cn} {b : Bd} {Po : PoE} {Er : ErE} {k n i : Nat} {C : Addr} {T : PT} {p pos : Pos} {x : Str} {e : Expr} {es : List Expr}
end
end TV
/-! Data that may be compared; facts of the head. -/
namespace TV
open PySem PySem.Spec PyProof.Rows L2
/-! promises of the specials -/
end TV
/-! Marks: whole numbers as lists of bits. -/
namespace TV
open PySem PySem.Spec PyProof.Rows L2
section
variable {F : Fm} {B : Bs} {G : Gam} {c : Cn} {b : Bd} {m : Bool} {Po : PoE} {Er : ErE} {e : Expr} {apos pos : Pos}
/-- x.bit_length() -/
theorem v_bits (hbase : ∀ env, attributeBase e "bit_length" env (eval e env) = eval e env) (hline : (apos.endLine == pos.line) = true) (h : WE F B e G (fun d G1 => ∃ i, d = .int i ∧ Po (.int (Builtin.Int.intBits i : Nat)) G1) Er) : WE F B (.Call (.Attribute e "bit_length" apos) [] [] pos) G Po Er := by
  intro σ P H Q hh hq hr
  refine of_pe (fun cc => pe_bits (eR_pe cc) (hbase _) hline) ?_
  refine h σ P H _ hh (fun d G1 v P1 H1 w1 h1 x1 r1 => ?_) hr
  obtain ⟨i, rfl, k⟩ := w1
  cases r1
  exact ⟨i, rfl, hq _ G1 _ P1 H1 k h1 x1 (.int _)⟩
end
end TV
/-! len of one's own list; first pairs; plans that meet marks. -/
namespace TV
open PySem PySem.Spec PyProof.Rows L2
section
variable {F : Fm} {B : Bs} {G : Gam} {c : Cn} {b : Bd} {m : Bool} {Po : PoE} {Er : ErE} {x : Str} {i : Nat} {p p2 pos : Pos}
/-- len(x), x a list of one's own: it stays so -/
theorem v_lenO (I : Is F c b m) {xs : List D} (hl : LookV b.nm G.sl x i (.ow (.lst xs))) (hm : c.mg "len" = none) (hg : InL "len" b.gl) (hs : ∀ env, starEach [.Name x p2] env = (false, eval (.Name x p2) env) :: starEach [] env) (hpl : ∀ env, (backTo pos (starEach [] env)).any (·.1) = false) (k : Po (.int xs.length) G) : WE F B (.Call (.Name "len" p) [.Name x p2] [] pos) G Po Er := by
  refine we_callB (by rw [I.em]; exact hm) boot_len (I.here hg) (by decide) (by rfl) hs hpl ?_
  refine wa_hs I.nm hl hs (wa_nil ?_)
  intro σ P H vs Q hh av hq
  cases av with
  | cons a1 av =>
    cases av
    cases a1 with
    | hs e =>
      obtain ⟨q, e1, _, _, o⟩ := hh.getO hl.at.2
      rw [e] at e1
      cases e1
      cases o with
      | @lst ws _ hw rl =>
        refine of_cb (r := fun xs H Q => ∃ p ys, xs = [.ref p] ∧ (SqL F.K H p ys ∨ SqT F.K H p ys) ∧ Q (.int ys.length) H) (fun c => ?_) ⟨q, ws, rfl, .inl (.inl (.inl hw)), ?_⟩
        · rw [← (F.ok c).eK]; exact call_len_seq
        · rw [rl.length]
          exact hq _ G _ P H k hh Ex.rfl (.int _)
end
/-! the first pair of places that is bad -/
/-! plans by marks -/
/-! promises -/
end TV
/-! Conditions by rows; possible. -/
namespace TV
open PySem PySem.Spec PyProof.Rows L2
abbrev condR (c : Cn) (r : Row) : D := cond c r.2.1 r.1 r.2.2
abbrev barD (c : Cn) (a b : D) : D := .ins (ad c "Barred") [("one", a), ("other", b)]
section
variable {F : Fm} {B : Bs} {G : Gam} {Po : PoE} {d : D}
theorem o_isNN (k : Po (.bl true) G) : Op F B (compareOp .Is) .non .non G Po := o_isN k
theorem o_isNF (h : isNon d = false) (k : Po (.bl false) G) : Op F B (compareOp .Is) d .non G Po := o_isN (by rw [h]; exact k)
theorem o_notNN (k : Po (.bl false) G) : Op F B (compareOp .IsNot) .non .non G Po := o_notN k
theorem o_notNF (h : isNon d = false) (k : Po (.bl true) G) : Op F B (compareOp .IsNot) d .non G Po := o_notN (by rw [h]; exact k)
end
end TV
/-! Parts of lists and tuples: x[a:b]. -/
namespace TV
open PySem PySem.Spec PyProof.Rows L2
def cutD (ds : List D) (lo hi : Option Int) : List D := (ds.drop (HT.sIx ds.length 0 lo)).take (HT.sIx ds.length ds.length hi - HT.sIx ds.length 0 lo)
theorem cut_rp {K : PySem.W.Frag} {P : Hp} {vs : List V} {ds : List D} (h : RpL K P vs ds) (lo hi : Option Int) : RpL K P (cutV vs lo hi) (cutD ds lo hi) := by
  unfold cutV cutD
  rw [h.length]
  exact (h.drop _).take _
def Slc (d : D) (lo hi : Option Int) (G : Gam) (Po : PoE) : Prop := ∃ ds, (d = .lst ds ∧ Po (.lst (cutD ds lo hi)) G) ∨ (d = .tup ds ∧ Po (.tup (cutD ds lo hi)) G)
section
variable {F : Fm} {B : Bs} {G : Gam} {Po : PoE} {Er : ErE} {a b e : Expr} {p2 pos : Pos}
theorem slc_go {d : D} {lo hi : Option Int} {σ : L2.St} {P H : Hp} {x : V} {Q : VK} (h : Slc d lo hi G Po) (hh : Holds F.K B G σ P H) (r : Rp F.K P x d) (hq : ∀ d G' v P' H', Po d G' → Holds F.K B G' σ P' H' → Ex P P' → Rp F.K P' v d → Q v H') : rSlL F.K x lo hi H Q ∨ rSlA F.K x lo hi H Q := by
  obtain ⟨ds, h | h⟩ := h
  · obtain ⟨rfl, k⟩ := h
    cases r with
    | lst s rl =>
      refine .inl ⟨_, _, rfl, hh.ex.sqL s, fun p hp => ?_⟩
      obtain ⟨h2, x2⟩ := hh.newP (o := .lst _) hp
      exact hq _ G _ _ _ k h2 x2 (.lst (.inl (.inl upd_same)) ((cut_rp rl lo hi).mono x2))
  · obtain ⟨rfl, k⟩ := h
    cases r with
    | @tup a vs _ s rl =>
      refine .inr ⟨_, _, rfl, hh.ex.sqT s, fun z => ?_, fun _ p hp => ?_⟩
      · have e : cutD ds lo hi = ds := by
          rw [rl.length] at z
          rw [cutD, z.1, z.2, List.drop_zero, Nat.sub_zero, List.take_of_length_le (Nat.le_refl _)]
        rw [e] at k
        exact hq _ G _ P H k hh Ex.rfl (.tup s rl)
      · obtain ⟨h2, x2⟩ := hh.newP (o := .tup _) hp
        exact hq _ G _ _ _ k h2 x2 (.tup (.inl (.inl upd_same)) ((cut_rp rl lo hi).mono x2))
theorem sl_any (c : F.J) : SlR (F.X c) (fun x lo hi H Q => rSlL F.K x lo hi H Q ∨ rSlA F.K x lo hi H Q) := by
  have := SlR.or (@sl_list (F.X c)) (@sl_tupA (F.X c))
  rw [(F.ok c).eK] at this
  exact this
/-- a[:b] -/
theorem we_slTo (h : WE F B a G (fun d1 G1 => WE F B b G1 (fun d2 G2 => ∃ n, d2 = .int n ∧ Slc d1 none (some n) G2 Po) Er) Er) : WE F B (.Subscript a (.Slice none (some b) none p2) pos) G Po Er := by
  intro σ P H Q hh hq hr
  refine of_pe (fun c => pe_slice (sl_any c) (eR_pe c) po_none (po_some (eR_pe c))) ?_
  refine h σ P H _ hh (fun d1 G1 v1 P1 H1 w1 h1 x1 r1 => ?_) hr
  refine w1 σ P1 H1 _ h1 (fun d2 G2 v2 P2 H2 w2 h2 x2 r2 => ?_) hr
  obtain ⟨n, rfl, k⟩ := w2
  cases r2
  exact ⟨n, rfl, slc_go k h2 (r1.mono x2) fun d G' v P' H' po h' x' r' => hq d G' v P' H' po h' ((x1.trans x2).trans x') r'⟩
/-- a[b:] -/
theorem we_slFrom (h : WE F B a G (fun d1 G1 => WE F B b G1 (fun d2 G2 => ∃ n, d2 = .int n ∧ Slc d1 (some n) none G2 Po) Er) Er) : WE F B (.Subscript a (.Slice (some b) none none p2) pos) G Po Er := by
  intro σ P H Q hh hq hr
  refine of_pe (fun c => pe_slice (sl_any c) (eR_pe c) (po_some (eR_pe c)) po_none) ?_
  refine h σ P H _ hh (fun d1 G1 v1 P1 H1 w1 h1 x1 r1 => ?_) hr
  refine w1 σ P1 H1 _ h1 (fun d2 G2 v2 P2 H2 w2 h2 x2 r2 => ?_) hr
  obtain ⟨n, rfl, k⟩ := w2
  cases r2
  exact ⟨n, rfl, slc_go k h2 (r1.mono x2) fun d G' v P' H' po h' x' r' => hq d G' v P' H' po h' ((x1.trans x2).trans x') r'⟩
/-- a[b:e] -/
theorem we_sl (h : WE F B a G (fun d1 G1 => WE F B b G1 (fun d2 G2 => ∃ m, d2 = .int m ∧ WE F B e G2 (fun d3 G3 => ∃ n, d3 = .int n ∧ Slc d1 (some m) (some n) G3 Po) Er) Er) Er) : WE F B (.Subscript a (.Slice (some b) (some e) none p2) pos) G Po Er := by
  intro σ P H Q hh hq hr
  refine of_pe (fun c => pe_slice (sl_any c) (eR_pe c) (po_some (eR_pe c)) (po_some (eR_pe c))) ?_
  refine h σ P H _ hh (fun d1 G1 v1 P1 H1 w1 h1 x1 r1 => ?_) hr
  refine w1 σ P1 H1 _ h1 (fun d2 G2 v2 P2 H2 w2 h2 x2 r2 => ?_) hr
  obtain ⟨m, rfl, k⟩ := w2
  cases r2
  refine ⟨m, rfl, ?_⟩
  refine k σ P2 H2 _ h2 (fun d3 G3 v3 P3 H3 w3 h3 x3 r3 => ?_) hr
  obtain ⟨n, rfl, k⟩ := w3
  cases r3
  exact ⟨n, rfl, slc_go k h3 (r1.mono (x2.trans x3)) fun d G' v P' H' po h' x' r' => hq d G' v P' H' po h' (((x1.trans x2).trans x3).trans x') r'⟩
end
end TV
/-! The conditions that only one setting meets; reach. -/
namespace TV
open PySem PySem.Spec PyProof.Rows L2
end TV
/-! Guards: which rule fits is seen before its premises are tried. -/
namespace TV
open PySem PySem.Spec PyProof.Rows L2
section
variable {F : Fm} {B : Bs} {G : Gam} {Po : PoE} {Er : ErE} {nx : Gam → Prop} {R : Rs} {x y f : Str} {p q pos apos : Pos} {e o t : Expr} {es ts ds : List Expr} {ks : List Keyword} {op : CmpOp} {ops : List CmpOp} {uo : UnaryOp} {bo : Operator} {st : Stmt} {sts : List Stmt} {k : Nat}
theorem q_we (h : WE F B e G Po Er) : WE F B e G Po Er := h
theorem q_name (h : WE F B (.Name x p) G Po Er) : WE F B (.Name x p) G Po Er := h
theorem q_callN (h : WE F B (.Call (.Name x p) es ks pos) G Po Er) : WE F B (.Call (.Name x p) es ks pos) G Po Er := h
theorem q_callA (h : WE F B (.Call (.Attribute o f apos) es ks pos) G Po Er) : WE F B (.Call (.Attribute o f apos) es ks pos) G Po Er := h
theorem q_app (h : WE F B (.Call (.Attribute o "append" apos) es ks pos) G Po Er) : WE F B (.Call (.Attribute o "append" apos) es ks pos) G Po Er := h
theorem q_bits (h : WE F B (.Call (.Attribute o "bit_length" apos) es ks pos) G Po Er) : WE F B (.Call (.Attribute o "bit_length" apos) es ks pos) G Po Er := h
theorem q_len (h : WE F B (.Call (.Name "len" p) es ks pos) G Po Er) : WE F B (.Call (.Name "len" p) es ks pos) G Po Er := h
theorem q_list (h : WE F B (.Call (.Name "list" p) [.Call (.Name "range" q) es ks apos] ([] : List Keyword) pos) G Po Er) : WE F B (.Call (.Name "list" p) [.Call (.Name "range" q) es ks apos] ([] : List Keyword) pos) G Po Er := h
theorem q_attr (h : WE F B (.Attribute e f pos) G Po Er) : WE F B (.Attribute e f pos) G Po Er := h
theorem q_attrN (h : WE F B (.Attribute (.Name x p) f pos) G Po Er) : WE F B (.Attribute (.Name x p) f pos) G Po Er := h
theorem q_attrL (h : WE F B (.Attribute e "is_least" pos) G Po Er) : WE F B (.Attribute e "is_least" pos) G Po Er := h
theorem q_sub (h : WE F B (.Subscript e o pos) G Po Er) : WE F B (.Subscript e o pos) G Po Er := h
theorem q_subN (h : WE F B (.Subscript (.Name x p) o pos) G Po Er) : WE F B (.Subscript (.Name x p) o pos) G Po Er := h
theorem q_cmp (h : WE F B (.Compare e [op] ts pos) G Po Er) : WE F B (.Compare e [op] ts pos) G Po Er := h
theorem q_cmps (h : WE F B (.Compare e ops ts pos) G Po Er) : WE F B (.Compare e ops ts pos) G Po Er := h
theorem q_wt {Pb : Bool → Gam → Prop} (h : WT F B e G Pb Er) : WT F B e G Pb Er := h
theorem q_wcmp {Pb : Bool → Gam → Prop} (h : WT F B (.Compare e [op] ts pos) G Pb Er) : WT F B (.Compare e [op] ts pos) G Pb Er := h
theorem q_wcmps {Pb : Bool → Gam → Prop} (h : WT F B (.Compare e ops ts pos) G Pb Er) : WT F B (.Compare e ops ts pos) G Pb Er := h
theorem q_wap {Pa : List AV → Gam → Prop} (h : WAP F B es G Pa Er) : WAP F B es G Pa Er := h
theorem q_wa {Pa : List AV → Gam → Prop} (h : WA F B es G Pa Er) : WA F B es G Pa Er := h
theorem q_waN {Pa : List AV → Gam → Prop} (h : WA F B (.Name x p :: es) G Pa Er) : WA F B (.Name x p :: es) G Pa Er := h
theorem q_ww {Pb : Bool → Gam → Prop} (h : WW F B e G Pb Er) : WW F B e G Pb Er := h
theorem q_xs (h : XS F B st G nx R) : XS F B st G nx R := h
theorem q_xss (h : XSs F B sts G nx R) : XSs F B sts G nx R := h
theorem q_op {f : Value → Value → Sem Value} {d1 d2 : D} (h : Op F B f d1 d2 G Po) : Op F B f d1 d2 G Po := h
theorem q_opC {d1 d2 : D} (h : Op F B (compareOp op) d1 d2 G Po) : Op F B (compareOp op) d1 d2 G Po := h
theorem q_opB {d1 d2 : D} (h : Op F B (binaryOp bo) d1 d2 G Po) : Op F B (binaryOp bo) d1 d2 G Po := h
theorem q_eqS {d : D} (h : Op F B (compareOp .Eq) d d G Po) : Op F B (compareOp .Eq) d d G Po := h
theorem q_neS {d : D} (h : Op F B (compareOp .NotEq) d d G Po) : Op F B (compareOp .NotEq) d d G Po := h
theorem q_un {f : Value → Sem Value} {d1 : D} (h : Un1 F B f d1 G Po) : Un1 F B f d1 G Po := h
theorem q_cb {f : Value} {as : List AV} (h : Cb F B f as G Po Er) : Cb F B f as G Po Er := h
theorem q_ix {d1 d2 : D} (h : Ix F B d1 d2 G Po) : Ix F B d1 d2 G Po := h
theorem q_asg (h : XS F B (.Assign [.Name x p] e pos) G nx R) : XS F B (.Assign [.Name x p] e pos) G nx R := h
theorem q_asgD (h : XS F B (.Assign [.Name x p] (.List es q) pos) G nx R) : XS F B (.Assign [.Name x p] (.List es q) pos) G nx R := h
theorem q_asgS (h : XS F B (.Assign [.Subscript o t p] e pos) G nx R) : XS F B (.Assign [.Subscript o t p] e pos) G nx R := h
theorem q_par (h : XS F B (.Assign [.Tuple ts k p] e pos) G nx R) : XS F B (.Assign [.Tuple ts k p] e pos) G nx R := h
theorem q_aug (h : XS F B (.AugAssign o bo e pos) G nx R) : XS F B (.AugAssign o bo e pos) G nx R := h
theorem q_expr (h : XS F B (.Expr e pos) G nx R) : XS F B (.Expr e pos) G nx R := h
theorem q_raise {a b : Option Expr} (h : XS F B (.Raise a b pos) G nx R) : XS F B (.Raise a b pos) G nx R := h
theorem q_ex {α : Sort _} {Q : α → Prop} (h : ∃ a, Q a) : ∃ a, Q a := h
end
/-! the state stays written out: no projections of it pile up -/
def PutN (i : Nat) (s : Sl) (nx : Gam → Prop) (G1 : Gam) : Prop := ∃ sl, SetS G1.sl i s sl ∧ nx { G1 with sl := sl }
theorem putN_mk {i : Nat} {s : Sl} {nx : Gam → Prop} {l sl : List Sl} {a : List Ob} (h : SetS l i s sl) (k : nx ⟨sl, a⟩) : PutN i s nx ⟨l, a⟩ := ⟨sl, h, k⟩
theorem putG_hs {l sl : List Sl} {a : List Ob} {i : Nat} {o : Ob} (h : SetS l i (.ow o) sl) : PutG ⟨l, a⟩ (.hs i) o ⟨sl, a⟩ := .hs h
theorem putG_ha0 {l : List Sl} {a : List Ob} {o0 o : Ob} : PutG ⟨l, o0 :: a⟩ (.ha 0) o ⟨l, o :: a⟩ := .ha
theorem putG_ha1 {l : List Sl} {a : List Ob} {o0 o1 o : Ob} : PutG ⟨l, o0 :: o1 :: a⟩ (.ha 1) o ⟨l, o0 :: o :: a⟩ := .ha
def AppN (nm : Nms) (x : Str) (i : Nat) (xs : List D) (d : D) (Po : PoE) (G1 : Gam) : Prop := LookV nm G1.sl x i (.ow (.lst xs)) ∧ ∃ sl, SetS G1.sl i (.ow (.lst (xs ++ [d]))) sl ∧ Po .non { G1 with sl := sl }
theorem appN_mk {nm : Nms} {x : Str} {i : Nat} {xs : List D} {d : D} {Po : PoE} {l sl : List Sl} {a : List Ob} (h1 : LookV nm l x i (.ow (.lst xs))) (h : SetS l i (.ow (.lst (xs ++ [d]))) sl) (k : Po .non ⟨sl, a⟩) : AppN nm x i xs d Po ⟨l, a⟩ := ⟨h1, sl, h, k⟩
theorem q_putN {i : Nat} {s : Sl} {nx : Gam → Prop} {G : Gam} (h : PutN i s nx G) : PutN i s nx G := h
theorem q_appN {nm : Nms} {x : Str} {i : Nat} {xs : List D} {d : D} {Po : PoE} {G : Gam} (h : AppN nm x i xs d Po G) : AppN nm x i xs d Po G := h
section
variable {F : Fm} {B : Bs} {G : Gam} {c : Cn} {b : Bd} {m : Bool} {Po : PoE} {Er : ErE} {nx : Gam → Prop} {R : Rs} {x y z : Str} {i j n k : Nat} {p p1 p2 p3 pos pos' apos : Pos} {e : Expr} {l sl sl2 sl3 : List Sl} {a : List Ob} {d d1 d2 d3 : D} {Pg : Gam → Prop}
theorem w_asg (I : Is F c b m) (hi : InN x b.nm i) (hs : ∀ env, swapsWith e (some (.Name x pos')) pos.line env = pure false) (h : WE F B e G (fun d G1 => PutN i (.pu d) nx G1) R.er) : XS F B (.Assign [.Name x pos'] e pos) G nx R := v_asg I hi hs h
theorem w_asgO (I : Is F c b m) (hi : InN x b.nm i) (hs : ∀ env, swapsWith e (some (.Name x pos')) pos.line env = pure false) (h : WO F B e G (fun o G1 => PutN i (.ow o) nx G1) R.er) : XS F B (.Assign [.Name x pos'] e pos) G nx R := v_asgO I hi hs h
theorem w_aug (I : Is F c b m) {op : Operator} {s0 : D} (hl : LookV b.nm G.sl x i (.pu s0)) (hi : InN x b.nm i)
    (h : WE F B e G (fun d G1 => Op F B (inplaceOp op) s0 d G1 (fun d' G2 => PutN i (.pu d') nx G2)) R.er) : XS F B (.AugAssign (.Name x pos') op e pos) G nx R := v_aug I hl hi h
theorem w_append (I : Is F c b m) {xs : List D} (hl : LookV b.nm G.sl x i (.ow (.lst xs))) (hbase : ∀ env, attributeBase (.Name x p) "append" env (eval (.Name x p) env) = eval (.Name x p) env)
    (hfew : ∀ env, ((backTo pos (starEach [e] env)).all (fun x => !x.1) && (backToKw pos (keywordEach [] env)).all (fun x => x.1.isSome) && decide ([e].length + ([] : List Keyword).length + (if ([] : List Keyword).isEmpty then 0 else 1) < 30)) = true)
    (hline : (apos.endLine == pos.line) = true) (hs : ∀ env, starEach [e] env = (false, eval e env) :: starEach [] env) (hpl : ∀ env, (backTo pos (starEach [] env)).any (·.1) = false) (hsz : xs.length < 100000)
    (h : WE F B e G (fun d G1 => AppN b.nm x i xs d Po G1) Er) : WE F B (.Call (.Attribute (.Name x p) "append" apos) [e] [] pos) G Po Er := v_append I hl hbase hfew hline hs hpl hsz h
theorem w_frz (I : Is F c b m) {xs : List D} (h : LookV b.nm l x i (.ow (.lst xs))) (s : SetS l i (.pu (.lst xs)) sl) (k : Po (.lst xs) ⟨sl, a⟩) : WE F B (.Name x p) ⟨l, a⟩ Po Er := v_frz I h s k
end
end TV
/-! Plans in the place of givens: the plain law. -/
namespace TV
open PySem PySem.Spec PyProof.Rows L2
abbrev P3 := Int × List V3 × Int
section
variable {F : Fm} {B : Bs} {G : Gam} {Po : PoE} {i j : Int}
theorem o_iadd (k : Po (.int (i + j)) G) : Op F B (inplaceOp .Add) (.int i) (.int j) G Po := op_I0 (fun _ => iop_add) (fun _ => .int _) k
theorem o_isub (k : Po (.int (i - j)) G) : Op F B (inplaceOp .Sub) (.int i) (.int j) G Po := op_I0 (fun _ => iop_sub) (fun _ => .int _) k
theorem o_iand (k : Po (.int (Builtin.bitAnd i j)) G) : Op F B (inplaceOp .BitAnd) (.int i) (.int j) G Po := op_I0 (fun _ => iop_and) (fun _ => .int _) k
theorem o_ior (k : Po (.int (Builtin.bitOr i j)) G) : Op F B (inplaceOp .BitOr) (.int i) (.int j) G Po := op_I0 (fun _ => iop_or) (fun _ => .int _) k
theorem o_ixor (k : Po (.int (Builtin.bitXor i j)) G) : Op F B (inplaceOp .BitXor) (.int i) (.int j) G Po := op_I0 (fun _ => iop_xor) (fun _ => .int _) k
end
def c0 (ps : List P3) : Int := (ps.headD (0, [], 0)).1
end TV
/-! What no given meets, no value of a plan meets; what is reached is not barred. -/
namespace TV
open PySem PySem.Spec PyProof.Rows L2
section
variable {F : Fm} {B : Bs} {G : Gam} {c : Cn} {b : Bd} {Po : PoE} {Er : ErE} {k n : Nat} {C : Addr} {T : PT} {pos apos : Pos} {e o : Expr} {es : List Expr} {mn : Str}
/-- o.m(e, ..), o a plain instance, the method changes nothing -/
theorem v_methE {pl : Env → Sem Bool} (I : Is F c b true) (M : Mth c k C mn n T) (cl : Cls c.K C) (hk : k ≤ b.lv) (hst : ∀ env, starEach (e :: es) env = (false, eval e env) :: starEach es env) (hpl : ∀ env, (backTo pos (starEach es env)).any (·.1) = false)
    (ht : ∀ env, eval (.Call (.Attribute o mn apos) (e :: es) [] pos) env = (do
      let ov ← eval o env
      standAt apos.atName
      let (f, first) ← holding [ov] (getMethod ov mn (pl env))
      callWith pos f first (backTo pos (starEach (e :: es) env)) (backToKw pos (keywordEach [] env))))
    (h : WE F B o G (fun d G1 => ∃ fs, d = .ins C fs ∧ fs.lookup mn = none ∧ WAP F B (e :: es) G1 (fun as G2 => ∃ bs, Args0 as bs ∧ bs.length + 1 = n ∧ T (.pu (.ins C fs) :: bs) (fun d' _ => Po d' G2) (fun C' fs' _ => Er C' fs' G2)) Er) Er) : WE F B (.Call (.Attribute o mn apos) (e :: es) [] pos) G Po Er := by
  obtain ⟨f, fd, ps, hm, hb, hl, ok⟩ := M.ex
  intro σ P H Q hh hq hr
  refine of_pe (t := tMethS C mn (spOf F.K T n) (L2.WE F.W) (eR F.X o) (aR F.X (e :: es))) (fun cc => ?_) ?_
  · have Cx := F.ok cc
    have ok' : FnOk (F.X cc).prog (F.X cc).w (F.X cc).K (F.X cc).mg (F.X cc).base (L2.CX (F.X cc).prog (F.X cc).w) k f fd ps (spOf F.K T n) := by
      rw [Cx.eP, Cx.ew, Cx.eK, Cx.emg, Cx.eb, I.eP, I.ew, I.eK, I.em, I.eb]; exact ok
    exact pe_meS (eR_pe cc) (by rw [Cx.eK, I.eK]; exact cl) (by rw [Cx.eK, I.eK]; exact hm) ok' ((Cx.room I.cm).mono (by rw [I.lv]; exact hk)) (by rw [Cx.eK, I.eK]; exact hb) (fun σ => passAt Cx.tk σ) (aR_pa cc) (hst _) (hpl _) (ht _)
  · refine h σ P H _ hh (fun d G1 v P1 H1 w1 h1 x1 r1 => ?_) hr
    obtain ⟨fs, rfl, lk, wa⟩ := w1
    have r0 := r1
    cases r1 with
    | @ins a _ dx us _ ha rf =>
      refine ⟨a, dx, us, rfl, h1.ex _ _ ha, rf.none_of lk, ?_⟩
      refine wa σ P1 H1 _ h1 (fun as G2 vs P2 H2 w2 h2 x2 av => ?_) hr
      obtain ⟨bs, a0, hlen, t⟩ := w2
      have ao : ArgsOk F.K P2 H2 vs bs [] := a0.ok av
      refine ⟨_, [], P2, _, _, by rw [List.length_cons, ao.length]; exact hlen, .pu (r0.mono x2) ao, List.nodup_nil, h2.ex, t, fun d' obs v' P' H' sl σ' po h' rv => ?_, fun C' fs' obs a' P' H' sl σ' er h' => ?_⟩
      · obtain ⟨z1, z2⟩ := h2.call0 h'
        exact hq d' G2 v' P' H' po z1 (x1.trans (x2.trans z2)) rv
      · exact hr C' fs' G2 a' P' H' er (HoldsX.call0 h2 h')
/-- o.m() -/
theorem v_meth0E {pl : Env → Sem Bool} (I : Is F c b true) (M : Mth c k C mn 1 T) (cl : Cls c.K C) (hk : k ≤ b.lv)
    (ht : ∀ env, eval (.Call (.Attribute o mn apos) [] [] pos) env = (do
      let ov ← eval o env
      standAt apos.atName
      let (f, first) ← holding [ov] (getMethod ov mn (pl env))
      callWith pos f first (backTo pos (starEach [] env)) (backToKw pos (keywordEach [] env))))
    (h : WE F B o G (fun d G1 => ∃ fs, d = .ins C fs ∧ fs.lookup mn = none ∧ T [.pu (.ins C fs)] (fun d' _ => Po d' G1) (fun C' fs' _ => Er C' fs' G1)) Er) : WE F B (.Call (.Attribute o mn apos) [] [] pos) G Po Er := by
  obtain ⟨f, fd, ps, hm, hb, hl, ok⟩ := M.ex
  intro σ P H Q hh hq hr
  refine of_pe (t := tMethS C mn (spOf F.K T 1) (L2.WE F.W) (eR F.X o) tNil) (fun cc => ?_) ?_
  · have Cx := F.ok cc
    have ok' : FnOk (F.X cc).prog (F.X cc).w (F.X cc).K (F.X cc).mg (F.X cc).base (L2.CX (F.X cc).prog (F.X cc).w) k f fd ps (spOf F.K T 1) := by
      rw [Cx.eP, Cx.ew, Cx.eK, Cx.emg, Cx.eb, I.eP, I.ew, I.eK, I.em, I.eb]; exact ok
    exact pe_meS0 (eR_pe cc) (by rw [Cx.eK, I.eK]; exact cl) (by rw [Cx.eK, I.eK]; exact hm) ok' ((Cx.room I.cm).mono (by rw [I.lv]; exact hk)) (by rw [Cx.eK, I.eK]; exact hb) (fun σ => passAt Cx.tk σ) (ht _)
  · refine h σ P H _ hh (fun d G1 v P1 H1 w1 h1 x1 r1 => ?_) hr
    obtain ⟨fs, rfl, lk, t⟩ := w1
    have r0 := r1
    cases r1 with
    | @ins a _ dx us _ ha rf =>
      refine ⟨a, dx, us, rfl, h1.ex _ _ ha, rf.none_of lk, ?_⟩
      refine ⟨_, [], P1, _, _, rfl, .pu r0 .nil, List.nodup_nil, h1.ex, t, fun d' obs v' P' H' sl σ' po h' rv => ?_, fun C' fs' obs a' P' H' sl σ' er h' => ?_⟩
      · obtain ⟨z1, z2⟩ := h1.call0 h'
        exact hq d' G1 v' P' H' po z1 (x1.trans z2) rv
      · exact hr C' fs' G1 a' P' H' er (HoldsX.call0 h1 h')
end
section
variable {F : Fm} {B : Bs} {G : Gam} {c : Cn} {b : Bd} {Po : PoE} {Er : ErE}
theorem c_sum (I : Is F c b true) {ns : List Int} (k : Po (.int ns.sum) G) : Cb F B (.builtin "sum") [.pu (iL ns)] G Po Er := by
  refine cb_of (ds := [iL ns]) (r := rSum F.K) (fun cc => ?_) (.cons .nil) fun σ P H xs Q hh rl hq => ?_
  · rw [← (F.ok cc).eK]; exact cr_sum ((F.ok cc).calm.trans I.cm)
  · cases rl with
    | cons r1 r2 =>
      cases r2
      cases r1 with
      | lst s rv =>
        have e := rv.ints_of
        subst e
        exact ⟨_, ns, rfl, hh.ex.sqL s, hq _ G _ P H k hh Ex.rfl (.int _)⟩
end
end TV
/-! x.insert(i, y), x.remove(n) of a list of one's own; == of an instance with something of another kind; the first bad pair exists. -/
namespace TV
open PySem PySem.Spec PyProof.Rows L2
section
variable {F : Fm} {B : Bs} {G : Gam} {Po : PoE} {Er : ErE} {nm : Nms} {x : Str} {i : Nat} {p pos apos : Pos} {e e2 : Expr} {c : Cn} {b : Bd} {m : Bool}
end
/-! ### == of an instance with something of another kind -/
section
variable {X : Cx} {k : Nat} {f C : Addr} {fd : FuncData} {ps : List Str} {sp : Sp} {E : L2.St → XK}
end
section
variable {F : Fm} {B : Bs} {G : Gam} {c : Cn} {b : Bd} {Po : PoE} {Er : ErE} {k n : Nat} {C C2 : Addr} {T : PT}
end
/-! ### x = [.. for ..], x a cell -/
section
variable {F : Fm} {B : Bs} {G : Gam} {c : Cn} {b : Bd} {nx : Gam → Prop} {R : Rs} {x : Str} {i : Nat} {scope : Scope} {tg iter elt : Expr} {ifs : List Expr} {js : List Nat} {pos spos py : Pos}
end
/-! ### the first bad pair -/
/-! ### a list of one's own is lent: it is plain while an expression is read -/
def hid : Sl → Sl
  | .pu d => .pu d
  | _ => .no
section
variable {F : Fm} {B : Bs} {c : Cn} {b : Bd} {m : Bool} {Po : PoE} {Er : ErE} {i : Nat} {e : Expr} {l sl : List Sl} {a : List Ob} {xs : List D}
end
end TV
/-! Data without lists. -/
namespace TV
open PySem PySem.Spec PyProof.Rows L2
end TV
/-! sorted({e for x in a list or a tuple}), e an int. -/
namespace TV
open PySem PySem.Spec PyProof.Rows L2
section
variable {X : Cx}
end
section
variable {F : Fm} {B : Bs} {G : Gam} {c : Cn} {b : Bd} {Po : PoE} {Er : ErE} {p pos pos2 : Pos} {scope : Scope} {tg iter elt : Expr}
end
end TV
/-! The different numbers of a dial; what fits the marks; the span of a dial. -/
namespace TV
open PySem PySem.Spec PyProof.Rows L2
end TV
/-! What votes reach, in plain words: if every two conditions meet, one row meets them all. -/
namespace TV
open PySem PySem.Spec PyProof.Rows L2
section
variable {rs : List (List Int)} {m : Nat} {cs : List Row} {d : Int}
end
section
variable {F : Fm} {B : Bs} {G : Gam} {c : Cn} {b : Bd} {m : Bool} {Po : PoE} {Er : ErE} {i : Nat} {e : Expr} {l l1 sl : List Sl} {a : List Ob} {xs : List D} {Pb : Bool → Gam → Prop}
end
end TV
/-! A def gives back a list of its own: it is the caller's own then. -/
namespace TV
open PySem PySem.Spec PyProof.Rows L2
section
variable {K : PySem.W.Frag} {B : Bs} {P H : Hp}
end
section
variable {F : Fm} {B : Bs} {G : Gam} {c : Cn} {b : Bd} {m : Bool} {nx : Gam → Prop} {R : Rs} {x : Str} {i : Nat} {p pos : Pos} {o : Ob} {l sl : List Sl} {a : List Ob}
end
section
variable {F : Fm} {B : Bs} {G : Gam} {x : Str} {n k : Nat} {T : PT} {e : Expr} {es : List Expr} {p pos : Pos} {PoO : Ob → Gam → Prop} {Er : ErE} {c : Cn} {b : Bd}
end
end TV
/-! is, is not of flags; assignments of what a call gives back. -/
namespace TV
open PySem PySem.Spec PyProof.Rows L2
section
variable {F : Fm} {B : Bs} {G : Gam} {Po : PoE} {a b : Bool}
end
end TV
/-! A list of the caller's own is given away: the def that takes it owns it. -/
namespace TV
open PySem PySem.Spec PyProof.Rows L2
inductive ArgW where
  | pu (d : D) | ar (o : Ob) | ow (o : Ob)
abbrev PTW := List ArgW → (D → List Ob → Prop) → (Addr → Fs → List Ob → Prop) → Prop
section
variable {K : PySem.W.Frag} {P H : Hp}
end
/-! the caller -/
section
variable {K : PySem.W.Frag} {B : Bs} {G : Gam} {σ : L2.St} {P H : Hp}
end
section
variable {F : Fm} {B : Bs} {G : Gam} {x : Str} {n k : Nat} {T : PTW} {e : Expr} {es : List Expr} {p pos : Pos} {PoO : Ob → Gam → Prop} {Er : ErE} {c : Cn} {b : Bd}
end
end TV
/-! for x in a list of one's own that stays one's own. -/
namespace TV
open PySem PySem.Spec PyProof.Rows L2
section
variable {K : PySem.W.Frag} {B : Bs} {P H : Hp}
end
section
variable {F : Fm} {B : Bs} {c : Cn} {b : Bd} {nx : Gam → Prop} {R : Rs} {i : Nat} {p pos : Pos} {tg : Expr} {body : List Stmt} {js : List Nat} {l : List Sl} {ar : List Ob} {ns : List Int}
end
end TV
/-! Givens that the others reach. -/
namespace TV
open PySem PySem.Spec PyProof.Rows L2
end TV
/-! range(a, b, -1); list(range(..)) of one's own; x.remove(n); a list is lent while a new list is made. -/
namespace TV
open PySem PySem.Spec PyProof.Rows L2
section
variable {F : Fm} {B : Bs} {G : Gam} {c : Cn} {b : Bd} {m : Bool} {Po : PoE} {Er : ErE} {x : Str} {i : Nat} {p p2 pos pos2 apos : Pos} {e a e2 e3 tg : Expr} {PoO : Ob → Gam → Prop}
end
section
variable {F : Fm} {B : Bs} {c : Cn} {b : Bd} {m : Bool} {PoO : Ob → Gam → Prop} {Er : ErE} {i : Nat} {e : Expr} {l l1 sl : List Sl} {a : List Ob} {xs : List D}
end
end TV
/-! The core of givens. -/
namespace TV
open PySem PySem.Spec PyProof.Rows L2
section
variable {rs : List (List Int)} {m : Nat}
end
end TV
/-! y = [.. for .. in x ..], x a list of one's own that stays so. -/
namespace TV
open PySem PySem.Spec PyProof.Rows L2
section
variable {F : Fm} {B : Bs} {c : Cn} {b : Bd} {m : Bool} {PoO : Ob → Gam → Prop} {Er : ErE} {i : Nat} {e : Expr} {l l1 sl : List Sl} {a : List Ob} {xs : List D}
end
section
variable {F : Fm} {B : Bs} {c : Cn} {b : Bd} {nx : Gam → Prop} {R : Rs} {y : Str} {i j : Nat} {scope : Scope} {tg iter elt : Expr} {ifs : List Expr} {js : List Nat} {pos spos py : Pos} {l l1 sl : List Sl} {a : List Ob} {xs : List D}
end
end TV
/-! Region objects: an own list is read as a name, a call gives back several of them. -/
namespace TV
open PySem PySem.Spec PyProof.Rows L2
/-- a region: its address, its object -/
abbrev Rg := Addr × Ob
section
variable {K : PySem.W.Frag} {P H : Hp}
end
section
variable {F : Fm} {B : Bs} {c : Cn} {b : Bd} {m : Bool} {Po : PoE} {Er : ErE} {x : Str} {i : Nat} {p pos : Pos} {l sl : List Sl} {a : List Ob} {o : Ob}
end
section
variable {F : Fm} {B : Bs} {G : Gam} {x : Str} {n k : Nat} {T : PT} {e : Expr} {es : List Expr} {p pos : Pos} {Po : PoE} {Er : ErE} {c : Cn} {b : Bd}
end
end TV
/-! Regions are read, changed, made plain. -/
namespace TV
open PySem PySem.Spec PyProof.Rows L2
section
variable {K : PySem.W.Frag} {B : Bs} {P H : Hp} {σ : L2.St} {l : List Sl} {L : List Rg}
end
/-- lists of ints as regions -/
abbrev IR := Addr × List Int
section
variable {K : PySem.W.Frag} {B : Bs} {σ : L2.St} {l : List Sl}
end
section
variable {F : Fm} {B : Bs} {c : Cn} {b : Bd} {m : Bool} {Po : PoE} {Er : ErE} {nx : Gam → Prop} {R : Rs} {i j : Nat} {p pos pt : Pos} {e d0 : Expr} {sts : List Stmt} {l l1 sl : List Sl} {Pb : Bool → Gam → Prop} {L : List Rg}
end
end TV
/-! Regions: the last one goes back to a slot; sums of regions. -/
namespace TV
open PySem PySem.Spec PyProof.Rows L2
end TV
/-! Regions are lent to a call: they are plain while it runs. -/
namespace TV
open PySem PySem.Spec PyProof.Rows L2
section
variable {K : PySem.W.Frag} {B : Bs} {G : Gam} {σ : L2.St} {P P2 H : Hp} {I0 : List IR}
end
section
variable {F : Fm} {B : Bs} {l : List Sl} {x : Str} {n k : Nat} {T : PT} {e : Expr} {es : List Expr} {p pos : Pos} {PoO : Ob → Gam → Prop} {Er : ErE} {c : Cn} {b : Bd} {I0 : List IR} {G : Gam}
end
end TV
/-! Plain data as the library's data (PyData); min of a list of tuples of ints. -/
namespace TV
open PySem PySem.Spec PyProof.Rows L2
section
variable {X : Cx} {pins : List (Addr × Obj)} {σ : L2.St} {P H : Hp} {s : Shared}
end
/-! the first of the least: rows of ints -/
section
variable {F : Fm} {B : Bs} {G : Gam} {c : Cn} {b : Bd} {Po : PoE} {Er : ErE}
end
end TV
/-! zip of two sequences, lists or tuples (each for itself); abs; tuples compared. -/
namespace TV
open PySem PySem.Spec PyProof.Rows L2
section
variable {prog : Program} {w : World} {A : Around} {E : Value → Shared → Prop} {s : Shared}
abbrev T2 (h : Heap) (T : Nat) (a b : Value) : Prop := h.get? T = some { cls := .type "tuple", data := .seq #[a, b] }
variable {n l1 l2 : Nat} {k1 k2 : Bool} {j : Nat} {xs ys : Array Value} {x y a b : Value}
end
end TV
/-! zip of two: made, walked; for a, b in zip(x, y). -/
namespace TV
open PySem PySem.Spec PyProof.Rows L2
section
variable {prog : Program} {w : World} {A : Around} {E : Value → Shared → Prop} {s : Shared}
end
section
variable {F : Fm} {B : Bs} {G : Gam} {Er : ErE} {e1 e2 : Expr} {p pos tpos : Pos} {elts : List Expr} {kk : Nat} {Pw : List D → Gam → Prop} {c : Cn} {b : Bd} {m : Bool}
end
end TV
/-! for a, b in zip(x, y); [*x, a, b]; abs; tuples of ints compared. -/
namespace TV
open PySem PySem.Spec PyProof.Rows L2
section
variable {F : Fm} {B : Bs} {G : Gam} {c : Cn} {b : Bd} {m : Bool} {Po : PoE} {Er : ErE} {p pos : Pos} {e : Expr} {es : List Expr} {Pa : List AV → Gam → Prop}
end
end TV
/-! The nearest setting, in plain words. -/
namespace TV
open PySem PySem.Spec PyProof.Rows L2
end TV
/-! sorted of data; min of data; < of data; ints of any size are shifted; what an expression makes is given back. -/
namespace TV
open PySem PySem.Spec PyProof.Rows L2
section
variable {X : Cx} {pins : List (Addr × Obj)} {σ : L2.St} {P H : Hp} {s : Shared} {β : Type}
end
section
variable {F : Fm} {B : Bs} {G : Gam} {c : Cn} {b : Bd} {m : Bool} {Po : PoE} {Er : ErE} {nx : Gam → Prop} {R : Rs} {x : Str} {p pos : Pos} {e : Expr} {β : Type} {i j : Int}
end
/-! what an expression makes is given back -/
section
variable {K : PySem.W.Frag} {B : Bs} {P H : Hp}
end
section
variable {F : Fm} {B : Bs} {G : Gam} {c : Cn} {b : Bd} {m : Bool} {nx : Gam → Prop} {R : Rs} {pos : Pos} {e : Expr}
end
/-! rows of ints -/
end TV
/-! Tables of groups: which groups win by a plan. -/
namespace TV
open PySem PySem.Spec PyProof.Rows L2
/-! the groups that win by a plan -/
end TV
/-! Which groups win by a plan: the plain law. -/
namespace TV
open PySem PySem.Spec PyProof.Rows L2
/-! the value, threshold by threshold -/
/-! least winning groups -/
/-! the smallest group of the even ones -/
section
variable {F : Fm} {B : Bs} {G : Gam} {c : Cn} {b : Bd} {m : Bool} {Er : ErE} {p pos : Pos} {a e2 e3 tg : Expr}
end
end TV
/-! Values when a group agrees; sorted and equal lists of tuples. -/
namespace TV
open PySem PySem.Spec PyProof.Rows L2
/-! the least winning groups say who wins -/
/-! equal lists of tuples -/
section
variable {F : Fm} {B : Bs} {G : Gam} {Po : PoE}
end
/-! sorted lists of tuples of ints -/
end TV
/-! not in; least winning groups: every two meet, none is within another. -/
namespace TV
open PySem PySem.Spec PyProof.Rows L2
section
variable {F : Fm} {B : Bs} {G : Gam} {Po : PoE}
end
section
variable {n : Nat} {vs : List V3} {r : Int}
end
end TV
/-! Who wins by a composed plan. -/
namespace TV
open PySem PySem.Spec PyProof.Rows L2
end TV
/-! Rules by groups: tables, fairness, the plan that is built. -/
namespace TV
open PySem PySem.Spec PyProof.Rows L2
/-! what is refused -/
/-! tables up to the j-th group -/
end TV
/-! max of two; rows by their places. -/
namespace TV
open PySem PySem.Spec PyProof.Rows L2
section
variable {F : Fm} {B : Bs} {G : Gam} {c : Cn} {b : Bd} {Po : PoE} {Er : ErE} {i j : Int}
end
end TV
/-! Set bits are counted; the power of a given; the given that wins alone. -/
namespace TV
open PySem PySem.Spec PyProof.Rows L2
/-! the power of a given, and the groups -/
section
variable {n : Nat} {vs : List V3} {r : Int}
end
end TV
/-! ~ of a whole number; a number without the bits of another. -/
namespace TV
open PySem PySem.Spec PyProof.Rows L2
end TV
/-! An own list + a list; None or a number. -/
namespace TV
open PySem PySem.Spec PyProof.Rows L2
section
variable {F : Fm} {B : Bs} {G : Gam} {c : Cn} {b : Bd} {m : Bool} {Po : PoE} {Er : ErE} {x : Str} {p pos : Pos} {e : Expr} {i : Nat}
end
section
variable {F : Fm} {B : Bs} {G : Gam} {Po : PoE} {x y : Option Nat}
end
end TV
/-! The least winning groups of a plan are a fair list of groups, and rule as the plan does. -/
namespace TV
open PySem PySem.Spec PyProof.Rows L2
section
variable {n : Nat} {vs : List V3} {r : Int}
end
end TV
/-! x.reverse() of an own list; one of the least winning groups is left out. -/
namespace TV
open PySem PySem.Spec PyProof.Rows L2
section
variable {F : Fm} {B : Bs} {c : Cn} {b : Bd} {m : Bool} {Po : PoE} {Er : ErE} {x : Str} {i : Nat} {p pos apos : Pos}
end
section
variable {F : Fm} {B : Bs} {G : Gam} {Er : ErE} {pos : Pos} {e1 e2 : Expr} {PoO : Ob → Gam → Prop}
/-- a + b of lists, as a list of one's own -/
theorem v_catW (h : WE F B e1 G (fun d G1 => ∃ xs, d = .lst xs ∧ WE F B e2 G1 (fun d2 G2 => ∃ ys, d2 = .lst ys ∧ xs.length + ys.length ≤ 200000 ∧ PoO (.lst (xs ++ ys)) G2) Er) Er) : WO F B (.BinOp e1 .Add e2 pos) G PoO Er := by
  intro σ P H Q hh hq hr
  refine of_pe (t := tOp (fun x y H Q => ∃ a b xs ys, x = .ref a ∧ y = .ref b ∧ SqL F.K H a xs ∧ SqL F.K H b ys ∧ xs.length + ys.length ≤ 200000 ∧ ∀ p, H p = none → Q (.ref p) (upd H p (.lst (xs ++ ys)))) (eR F.X e1) (eR F.X e2)) (fun c => ?_) ?_
  · have o : OpR (F.X c) (binaryOp .Add) (fun x y H Q => ∃ a b xs ys, x = .ref a ∧ y = .ref b ∧ SqL F.K H a xs ∧ SqL F.K H b ys ∧ xs.length + ys.length ≤ 200000 ∧ ∀ p, H p = none → Q (.ref p) (upd H p (.lst (xs ++ ys)))) := by
      rw [← (F.ok c).eK]; exact op_catL
    exact pe_op o (eR_pe c) (eR_pe c)
  · refine h σ P H _ hh (fun d1 G1 v1 P1 H1 w1 h1 x1 r1 => ?_) hr
    obtain ⟨xs, rfl, w1⟩ := w1
    refine w1 σ P1 H1 _ h1 (fun d2 G2 v2 P2 H2 w2 h2 x2 r2 => ?_) hr
    obtain ⟨ys, rfl, hz, k⟩ := w2
    cases r1 with
    | lst s1 l1 =>
      cases r2 with
      | lst s2 l2 =>
        refine ⟨_, _, _, _, rfl, rfl, h2.ex.sqL (x2.sqL s1), h2.ex.sqL s2, by rw [l1.length, l2.length]; exact hz, fun p hp => ?_⟩
        exact hq _ G2 p P2 _ k (h2.pushT hp (.lst upd_same ((l1.mono x2).append l2))) (x1.trans x2)
end
section
variable {n : Nat} {vs : List V3} {r : Int}
variable {T : List (List Int)}
variable {g0 : List Int} {R : List (List Int)}
end
end TV
/-! Weights of groups; range(1, b, 2). -/
namespace TV
open PySem PySem.Spec PyProof.Rows L2
section
variable {F : Fm} {B : Bs} {G : Gam} {c : Cn} {b : Bd} {m : Bool} {Er : ErE} {p pos : Pos} {a e2 e3 tg : Expr}
end
end TV
/-! sum of a list or a tuple. -/
namespace TV
open PySem PySem.Spec PyProof.Rows L2
section
variable {F : Fm} {B : Bs} {G : Gam} {c : Cn} {b : Bd} {Po : PoE} {Er : ErE}
end
end TV
/-! == of an instance with a tuple. -/
namespace TV
open PySem PySem.Spec PyProof.Rows L2
theorem looks_cls {M : Model} {h : Heap} {a : Addr} {o : PySem.Obj} {cl : Value} (ho : h.get? a = some o) (hc : o.cls = cl) : PySem.W.Looks M h (typeOf (.ref a)) cl :=
  fun A Q E s k q => wpAny_typeOf_ref (k _ _ ho) (by rw [hc]; exact q)
section
variable {F : Fm} {B : Bs} {G : Gam} {c : Cn} {b : Bd} {Po : PoE} {Er : ErE} {k n : Nat} {C C2 : Addr} {T : PT}
end
end TV
/-! Rules that are monotone and fair; the rule of weights; the middle number of many; min and max of numbers. -/
namespace TV
open PySem PySem.Spec PyProof.Rows L2
section
variable {n : Nat} {p : Nat → Bool}
end
/-! weights -/
section
variable {ws : List Int}
variable {rs : List (List Int)} {m : Nat} {vs : List V3} {r d : Int}
/-! equal weights -/
/-! the middle number -/
end
/-! min and max of a list of numbers -/
section
variable {F : Fm} {B : Bs} {G : Gam} {c : Cn} {b : Bd} {Po : PoE} {Er : ErE}
end
end TV
/-! The strictest bars, in ascending order of their keys. -/
namespace TV
open PySem PySem.Spec PyProof.Rows L2
/-! what stands in a list of bars -/
/-! the order of the keys -/
def keyD (q : Row × Row) : D := .tup [.int q.1.1, .bl q.1.2.1, .int q.1.2.2, .int q.2.1, .bl q.2.2.1, .int q.2.2.2]
end TV
/-! The strictest bars decide what is reached. -/
namespace TV
open PySem PySem.Spec PyProof.Rows L2
section
variable {rs rs' : List (List Int)} {m : Nat} {d d' : Int} {L L' : Bool} {xs : List Int}
end
end TV
/-! == of lists whose items are instances with an == of the text, equal or not. -/
namespace GQ
open PySem PySem.SeqAt
open AutoSeq1 (wpAny_loadPart')
open MeetsSeq MeetsSeq2 MeetsSeq3 SeqRoads2
section
variable {prog : Program} {w : World} {A : Around} {R : Result → Shared → Prop}
end
section
variable {prog : Program} {w : World} {A : Around} {E : Value → Shared → Prop} {s : Shared}
end
end GQ
namespace TV
open PySem PySem.Spec PyProof.Rows L2
section
variable {X : Cx} {k : Nat} {f C : Addr} {fd : FuncData} {ps : List Str} {sp : Sp} {E : XK}
end
section
variable {F : Fm} {B : Bs} {G : Gam} {c : Cn} {b : Bd} {Po : PoE} {k n : Nat} {C : Addr} {T : PT}
end
end TV
/-! A display of own lists: regions; all regions are lent while an expression is read; r.append(e), r a region. -/
namespace TV
open PySem PySem.Spec PyProof.Rows L2
section
variable {F : Fm} {B : Bs} {G : Gam} {e : Expr} {es : List Expr} {Er : ErE}
end
section
variable {F : Fm} {B : Bs} {c : Cn} {b : Bd} {m : Bool} {Po : PoE} {Er : ErE} {i : Nat} {e : Expr} {l l1 sl : List Sl}
end
section
variable {F : Fm} {B : Bs} {c : Cn} {b : Bd} {m : Bool} {Po : PoE} {Er : ErE} {e o : Expr} {l : List Sl} {L : List Rg} {pos apos : Pos}
end
end TV
/-! A fresh list is given to a def that also changes the stock. -/
namespace TV
open PySem PySem.Spec PyProof.Rows L2
section
variable {K : PySem.W.Frag} {B : Bs} {G : Gam} {σ : L2.St} {P H : Hp} {p : Addr} {u : Ob}
end
section
variable {F : Fm} {B : Bs} {G : Gam} {x s : Str} {n k i : Nat} {T : PTW} {a1 e3 a4 : Expr} {p pos ps : Pos} {Po : PoE} {Er : ErE} {c : Cn} {b : Bd}
end
end TV
/-! The least numbers are the least groups of the rule; the two groups of an Unfair differ. -/
namespace TV
open PySem PySem.Spec PyProof.Rows L2
section
variable {ns : List Nat} {n : Nat}
end
end TV
/-! A fresh list is given to a def that also changes an object handed in. -/
namespace TV
open PySem PySem.Spec PyProof.Rows L2
section
variable {F : Fm} {B : Bs} {G : Gam} {x s : Str} {n k i j : Nat} {T : PTW} {a1 e3 a4 : Expr} {p pos ps : Pos} {Po : PoE} {Er : ErE} {c : Cn} {b : Bd}
end
end TV
/-! a[:n] of a list, as a list of one's own. -/
namespace TV
open PySem PySem.Spec PyProof.Rows L2
section
variable {F : Fm} {B : Bs} {G : Gam} {Er : ErE} {pos p2 : Pos} {a b : Expr} {PoO : Ob → Gam → Prop}
end
end TV
/-! {} as plain data. -/
namespace TV
open PySem PySem.Spec PyProof.Rows L2
section
variable {F : Fm} {B : Bs} {G : Gam} {Po : PoE} {Er : ErE} {pos : Pos}
end
end TV
/-! A def that begins with super().__init__(x). -/
namespace TV
open PySem PySem.Spec PyProof.Rows L2
open PySem.W (ksEnv ksFn)
/-- such a def: its closure holds one cell, the class -/
structure FunC (K : PySem.W.Frag) (file : Str) (x qual : Str) (st : Stmt) (D f cc cda : Addr) (fd : FuncData) : Prop where
  ex : ∃ (oc : Value) (od : Option Addr) (kV doc pm : Value) (an : Option Addr) (ct : Value) (osl : Array (Option Value)), fd = ksFn x qual (defArgs st) (defBody st) (defScope st) .none kV doc pm an (.ref cda) ct cc ∧ K.lookup f = some ⟨oc, od, .func fd, osl⟩
  rec_ : PySem.W.codeIn K (.ref cda) qual = true
  cell : ∃ (cl : Value) (cld : Option Addr) (csl : Array (Option Value)), K.lookup cc = some ⟨cl, cld, .cell (some (.ref D)), csl⟩
  code : ∃ (ccl : Value) (cdd : Option Addr) (vs : Array Value) (ccs : Array (Option Value)) (fl : Str) (tf : Tok), K.lookup cda = some ⟨ccl, cdd, .fields vs, ccs⟩ ∧ vs[2]? = some (.str fl tf) ∧ (file == fl) = true
section
variable {P : Program} {w : World} {K : PySem.W.Frag} {mg : Str → Option Value} {base : Heap} {x qual : Str} {st : Stmt} {Dc f f2 cc cda : Addr} {fd fd2 : FuncData} {ps ps2 : List Str} {nm : Nms} {gl : List Str} {k n n2 : Nat} {T T2 : PT} {C : Addr}
end
end TV
/-! Facts of the head: defs whose closure holds their class. -/
namespace TV
open PySem PySem.Spec PyProof.Rows L2
open PySem.W (ksEnv ksFn)
structure DefC where
  cls : Str
  qual : Str
  st : Stmt
abbrev FnC : Type := Option (Str × Str × Arguments × FuncBody × Scope × Addr × List Str × Addr)
abbrev adC (K : PySem.W.Frag) (d : DefC) : Addr := He.ma K (He.ga K d.cls) "__init__"
def fnC (K : PySem.W.Frag) (d : DefC) : FnC := match K.lookup (adC K d) with
  | some o => (match o.data with
    | .func fd => some (fd.name, fd.qualname, fd.params, fd.body, fd.scope, fd.globals, fd.closure.map (·.1), fd.builtins)
    | _ => none)
  | none => none
def DefC.val (d : DefC) : FnC := some ("__init__", d.qual, defArgs d.st, .stmts (defBody d.st), defScope d.st, mainGlobals, ["__class__"], builtinsNs)
def cellB (K : PySem.W.Frag) (cc D : Addr) : Bool := match K.lookup cc with
  | some o => (match o.data with
    | .cell (some (.ref E)) => decide (E = D)
    | _ => false)
  | none => false
def fileB (K : PySem.W.Frag) (file : Str) (cda : Addr) : Bool := match K.lookup cda with
  | some o => (match o.data with
    | .fields vs => (match (vs[2]? : Option Value) with
      | some (Value.str fl _) => file == fl
      | _ => false)
    | _ => false)
  | none => false
def okC (K : PySem.W.Frag) (file : Str) (d : DefC) : Bool := match K.lookup (adC K d) with
  | some o => (match o.data with
    | .func fd => (match fd.closure, fd.code, fd.defaults with
      | [q], .ref cda, .none => PySem.W.codeIn K (.ref cda) d.qual && (cellB K q.2 (He.ga K d.cls) && fileB K file cda)
      | _, _, _ => false)
    | _ => false)
  | none => false
theorem cellB_ok {K : PySem.W.Frag} {cc Dc : Addr} (h : cellB K cc Dc = true) : ∃ (cl : Value) (cld : Option Addr) (csl : Array (Option Value)), K.lookup cc = some ⟨cl, cld, .cell (some (.ref Dc)), csl⟩ := by
  unfold cellB at h
  cases e : K.lookup cc with
  | none => rw [e] at h; cases h
  | some o =>
    rw [e] at h
    obtain ⟨cl, cld, dt, csl⟩ := o
    cases dt with
    | cell v =>
      cases v with
      | none => cases h
      | some v =>
        cases v with
        | ref E =>
          have : E = Dc := of_decide_eq_true h
          subst this
          exact ⟨cl, cld, csl, rfl⟩
        | _ => cases h
    | _ => cases h
theorem fileB_ok {K : PySem.W.Frag} {file : Str} {cda : Addr} (h : fileB K file cda = true) : ∃ (ccl : Value) (cdd : Option Addr) (vs : Array Value) (ccs : Array (Option Value)) (fl : Str) (tf : Tok), K.lookup cda = some ⟨ccl, cdd, .fields vs, ccs⟩ ∧ vs[2]? = some (.str fl tf) ∧ (file == fl) = true := by
  unfold fileB at h
  cases e : K.lookup cda with
  | none => rw [e] at h; cases h
  | some o =>
    rw [e] at h
    obtain ⟨cl, cld, dt, csl⟩ := o
    cases dt with
    | fields vs =>
      dsimp only at h
      cases e2 : vs[2]? with
      | none => rw [e2] at h; cases h
      | some v =>
        rw [e2] at h
        cases v with
        | str fl tf => exact ⟨cl, cld, vs, csl, fl, tf, rfl, e2, h⟩
        | _ => cases h
    | _ => cases h
theorem funC_of {K : PySem.W.Frag} {file : Str} {d : DefC} (e : fnC K d = d.val) (c : okC K file d = true) : ∃ cc cda fd, FunC K file "__init__" d.qual d.st (He.ga K d.cls) (adC K d) cc cda fd := by
  unfold fnC at e
  unfold okC at c
  cases q : K.lookup (adC K d) with
  | none => rw [q] at c; cases c
  | some o =>
    rw [q] at c e
    obtain ⟨oc, od, dt, osl⟩ := o
    cases dt with
    | func fd =>
      obtain ⟨n1, n2, n3, n4, n5, n6, n7, n8, n9, n10, n11, n12, n13, n14, n15⟩ := fd
      have e2 : (some (n1, n2, n3, n4, n5, n6, n7.map (·.1), n15) : FnC) = some (("__init__" : Str), d.qual, defArgs d.st, FuncBody.stmts (defBody d.st), defScope d.st, mainGlobals, [("__class__" : Str)], builtinsNs) := e
      simp only [Option.some.injEq, Prod.mk.injEq] at e2
      obtain ⟨h1, h2, h3, h4, h5, h6, h7, h8⟩ := e2
      subst h1 h2 h3 h4 h5 h6 h8
      dsimp only at c
      cases n7 with
      | nil => cases h7
      | cons p r =>
        obtain ⟨pn, cc⟩ := p
        rw [List.map_cons] at h7
        injection h7 with g1 g2
        have g2' : r = [] := List.map_eq_nil_iff.mp g2
        subst g2'
        have g1' : pn = ("__class__" : Str) := g1
        subst g1'
        cases n13 with
        | ref cda =>
          cases n8 with
          | none =>
            have c3 : (PySem.W.codeIn K (.ref cda) d.qual && (cellB K cc (He.ga K d.cls) && fileB K file cda)) = true := c
            obtain ⟨k1, k2⟩ := Bool.and_eq_true_iff.mp c3
            obtain ⟨k3, k4⟩ := Bool.and_eq_true_iff.mp k2
            exact ⟨cc, cda, _, ⟨oc, od, n9, n10, n11, n12, n14, osl, rfl, q⟩, k1, cellB_ok k3, fileB_ok k4⟩
          | _ => cases c
        | _ => cases c
    | _ => cases c
end TV
/-! The hook that tells of such defs, too; a class whose __init__ is such a def. -/
namespace TV
open PySem PySem.Spec PyProof.Rows L2
open PySem.W (ksEnv ksFn)
def exY (ex : PySem.W.Frag → Bool) (file : Str) (fc : List DefC) (K : PySem.W.Frag) : Bool := ex K && fc.all (okC K file)
/-- the part of the heap that is known: what the top's names reach, and the table of the machine's own names -/
def frY (g : Addr → Option Obj) (n : Nat) : PySem.W.Frag := He.frT g (cStatics :: He.asD g n)
def obsY (n : Nat) (fa : List He.Fa) (fn : List He.DefD) (ex : PySem.W.Frag → Bool) (file : Str) (fc : List DefC) (g : Addr → Option Obj) : He.AlX × List FnC :=
  ((He.obsT fa fn [] (frY g n), exY ex file fc (frY g n)), fc.map (fnC (frY g n)))
theorem saysY_of {fa : List He.Fa} {fn : List He.DefD} {ex : PySem.W.Frag → Bool} {w : World} {h : Heap} {K : PySem.W.Frag} (e : ((He.obsT fa fn [] K, ex K) : He.AlX) = He.valX fn [] w) : He.SaysX fa fn [] [] ex w h K :=
  ⟨congrArg (fun z : He.AlX => z.1) e, congrArg (fun z : He.AlX => z.2) e, (fun p hp => nomatch hp), (fun p hp => nomatch hp), (fun p hp => nomatch hp)⟩
def hookY (n : Nat) (fa : List He.Fa) (fn : List He.DefD) (ex : PySem.W.Frag → Bool) (file : Str) (fc : List DefC) : PySem.W.Hook where
  α := He.AlX × List FnC
  obs := fun s => obsY n fa fn ex file fc s.heap.get?
  val := fun w => (He.valX fn [] w, fc.map DefC.val)
  says := fun w h => ∃ K : PySem.W.Frag, K.In h ∧ He.SaysX fa fn [] [] (exY ex file fc) w h K ∧ fc.map (fnC K) = fc.map DefC.val
  of := fun w s e => ⟨_, He.frT_in, saysY_of (congrArg Prod.fst e), congrArg Prod.snd e⟩
  keeps := fun w h h' ⟨K, hK, c, d⟩ k => ⟨K, PySem.W.Frag.In.keeps hK k, ⟨c.t, c.more, c.hd, c.out, fun p hp => k _ _ (c.empty p hp)⟩, d⟩
theorem obsY_eq {n : Nat} {fa : List He.Fa} {fn : List He.DefD} {ex : PySem.W.Frag → Bool} {file : Str} {fc : List DefC} {g : Addr → Option Obj} {s : Shared} (h : ∀ a, g a = s.heap.get? a) : obsY n fa fn ex file fc g = (hookY n fa fn ex file fc).obs s := by
  have e : g = s.heap.get? := funext h
  rw [e] <;> rfl
theorem exY_ok {ex : PySem.W.Frag → Bool} {file : Str} {fc : List DefC} {K : PySem.W.Frag} (h : exY ex file fc K = true) : ex K = true := (Bool.and_eq_true_iff.mp h).1
theorem funC_at {ex : PySem.W.Frag → Bool} {file : Str} {fc : List DefC} {K : PySem.W.Frag} (h : exY ex file fc K = true) (e : fc.map (fnC K) = fc.map DefC.val) (i : Nat) {d : DefC} (hd : fc[i]? = some d) : ∃ cc cda fd, FunC K file "__init__" d.qual d.st (He.ga K d.cls) (adC K d) cc cda fd := by
  have h2 := List.all_eq_true.mp (Bool.and_eq_true_iff.mp h).2 d (List.mem_of_getElem? hd)
  have e2 : (fc.map (fnC K))[i]? = (fc.map DefC.val)[i]? := by rw [e]
  rw [List.getElem?_map, List.getElem?_map, hd] at e2
  exact funC_of (Option.some.inj e2) h2
end TV
/-! isinstance(x, (T, U)); len(set(x)) of different ints; x.pop(i) of a list of one's own; t.index(k) of a tuple of ints. -/
namespace TV
open PySem PySem.Spec PyProof.Rows L2
section
variable {X : Cx}
end
section
variable {F : Fm} {B : Bs} {G : Gam} {c : Cn} {b : Bd} {m : Bool} {Po : PoE} {Er : ErE} {x : Str} {i : Nat} {p pos apos : Pos} {e e2 : Expr}
end
end TV
/-! set(x) of a list of ints, sorted(set(x)), x.index(k) of a list, x * k. -/
namespace TV
open PySem PySem.Spec PyProof.Rows L2
section
variable {P : Program} {w : World} {A : Around} {E : Value → Shared → Prop} {s : Shared}
end
section
variable {X : Cx}
end
end TV
/-! sorted(set(x)), x.index(k) of a list, x * k. -/
namespace TV
open PySem PySem.Spec PyProof.Rows L2
section
variable {X : Cx}
end
section
variable {F : Fm} {B : Bs} {G : Gam} {c : Cn} {b : Bd} {m : Bool} {Po : PoE} {Er : ErE} {p p2 q pos apos : Pos} {e e2 : Expr}
end
end TV
/-! An own list is read at an index whose reading changes other things. -/
namespace TV
open PySem PySem.Spec PyProof.Rows L2
section
variable {F : Fm} {B : Bs} {G : Gam} {x : Str} {b : Expr} {pos p : Pos} {i : Nat} {nm : Nms} {Po : PoE} {Er : ErE}
end
section
variable {F : Fm} {B : Bs} {G : Gam} {x : Str} {e : Expr} {pos p : Pos} {i : Nat} {Po : PoE} {Er : ErE} {c : Cn} {b : Bd} {m : Bool}
end
end TV
/-! A def under another global name (y = x). -/
namespace TV
open PySem PySem.Spec PyProof.Rows L2
end TV
/-! x in y, x not in y by an own __contains__. -/
namespace TV
open PySem PySem.Spec PyProof.Rows L2
section
variable {X : Cx} {k : Nat} {f C : Addr} {fd : FuncData} {ps : List Str} {sp : Sp} {E : L2.St → XK} {pos : Pos}
end
section
variable {F : Fm} {B : Bs} {G : Gam} {c : Cn} {b : Bd} {Po : PoE} {k : Nat} {C : Addr} {T : PT}
end
end TV
/-! [.. for .. in .. for .. in ..], the walked things and the items pure. -/
namespace TV
open PySem PySem.Spec PyProof.Rows L2
section
variable {J J1 : It} {n n1 : Nat} {Gw Gw1 : Hp → Prop} {Y Y1 : Nat → Hp → V → Hp → Prop}
end
section
variable {F : Fm} {B : Bs} {G : Gam} {Er : ErE} {Po : Ob → Gam → Prop} {scope : Scope} {nm nm' : Nms} {gl' : List Str} {own : List (Str × Nat)} {tg iter tg1 iter1 elt : Expr} {js js1 vs1 : List Nat} {pos : Pos}
end
section
variable {F : Fm} {B : Bs} {G : Gam} {Er : ErE} {Po : Ob → Gam → Prop} {scope : Scope} {nm nm' : Nms} {gl' : List Str} {own : List (Str × Nat)} {tg iter tg1 iter1 elt : Expr} {js js1 vs1 : List Nat} {pos spos py : Pos} {N : En} {x : Str} {i : Nat}
end
section
variable {F : Fm} {B : Bs} {G : Gam} {c : Cn} {b : Bd} {Er : ErE} {scope : Scope} {tg iter tg1 iter1 elt : Expr} {js js1 vs1 : List Nat} {pos spos py : Pos} {x : Str} {i : Nat} {nx : Gam → Prop} {R : Rs}
end
end TV
/-! max of a tuple of numbers; all of a list of flags. -/
namespace TV
open PySem PySem.Spec PyProof.Rows L2
section
variable {prog : Program} {w : World} {A : Around} {E : Value → Shared → Prop} {s : Shared} {l : Addr}
end
section
variable {F : Fm} {B : Bs} {G : Gam} {c : Cn} {b : Bd} {Po : PoE} {Er : ErE}
end
section
variable {F : Fm} {B : Bs} {G : Gam} {c : Cn} {b : Bd} {Po : PoE} {Er : ErE}
end
end TV
/-! Regions beside one list that was handed in. -/
namespace TV
open PySem PySem.Spec PyProof.Rows L2
section
variable {K : PySem.W.Frag} {B : Bs} {P H : Hp} {σ : L2.St} {l : List Sl} {L : List Rg} {ys : List D}
end
section
variable {F : Fm} {B : Bs} {c : Cn} {b : Bd} {m : Bool} {Po : PoE} {Er : ErE} {nx : Gam → Prop} {R : Rs} {i : Nat} {e o : Expr} {l l1 sl : List Sl} {sts : List Stmt} {ys : List D} {L : List Rg} {pos apos : Pos}
end
section
variable {F : Fm} {B : Bs} {G : Gam} {c : Cn} {b : Bd} {Po : PoE} {Er : ErE} {i j : Int}
end
end TV
/-! An own &. -/
namespace TV
open PySem PySem.Spec PyProof.Rows L2
section
variable {F : Fm} {B : Bs} {G : Gam} {c : Cn} {b : Bd} {Po : PoE} {Er : ErE} {k n : Nat} {C : Addr} {T : PT} {pos : Pos} {e1 e2 : Expr}
end
end TV
/-! == and != of anything that holds instances with an == of their own, equal or not. -/
namespace GQ
open PySem PySem.SeqAt
open AutoSeq1 (wpAny_loadPart')
open MeetsSeq MeetsSeq2 MeetsSeq3 SeqRoads2
section
variable {prog : Program} {w : World} {A : Around} {R : Result → Shared → Prop}
end
section
variable {prog : Program} {w : World} {A : Around} {E : Value → Shared → Prop} {s : Shared}
end
end GQ
/-! What stands at one place is one datum; == at any depth. -/
namespace TV
open PySem PySem.Spec PyProof.Rows L2
section
variable {X : Cx} {pins : List (Addr × Obj)} {σ : L2.St} {H P : Hp} {s : Shared}
end
end TV
/-! == and != where one side is an instance with an own ==: the orders in which the two are asked. -/
namespace PySem.W
open PySem PySem.Spec PySem.Calls PyProof.Rows
section
variable {prog : Program} {w : World} {A : Around} {E : Value → Shared → Prop} {s : Shared} {K : Frag} {x C f : Addr} {ox : Obj} {od : Option Obj} {name : Str} {b tb : Value}
end
end PySem.W
/-! == and != of data that hold instances with an own ==, with any result. -/
namespace TV
open PySem PySem.Spec PyProof.Rows L2
/-- a comparison leaves the state of a body as it was -/
def Kept (F : Fm) (B : Bs) (G : Gam) (σ : L2.St) (P H : Hp) (cc : F.J) (pins : List (Addr × PySem.Obj)) (σ' : L2.St) (s' : Shared) : Prop :=
  ∃ P' H', Inv (F.X cc) pins σ' H' s' ∧ Holds F.K B G σ P' H' ∧ Ex P P' ∧ ∀ q u, H q = some u → H' q = some u
/-- d op e is r -/
def RcO (op : CmpOp) (c : Cn) (n : Nat) (d e : D) (r : Bool) : Prop :=
  ∀ {F : Fm} {B : Bs} {G : Gam} {b : Bd}, Is F c b true → ∀ (σ : L2.St) (P H : Hp) (x y : V), Holds F.K B G σ P H → Rp F.K P x d → Rp F.K P y e → ∀ (cc : F.J) (A : Around) (pins : List (Addr × PySem.Obj)) (s : Shared) (σ' : L2.St) (v u : Value),
    Sub (F.X cc) n A → Inv (F.X cc) pins σ' H s → RelV x v → RelV y u → wpAny (model (F.X cc).prog (F.X cc).w) A (richCompare op v u) (fun w s' => w = .bool r ∧ Kept F B G σ P H cc pins σ' s') (F.X cc).xe s
abbrev RcD (c : Cn) (n : Nat) (d e : D) (r : Bool) : Prop := RcO .Eq c n d e r
section
variable {F : Fm} {B : Bs} {G : Gam} {c : Cn} {b : Bd} {Po : PoE} {n m : Nat} {d e : D} {r : Bool} {op : CmpOp}
theorem RcO.mono (h : RcO op c n d e r) (hn : n ≤ m) : RcO op c m d e r := fun I σ P H x y hh r1 r2 cc A pins s σ' v u sb => h I σ P H x y hh r1 r2 cc A pins s σ' v u (sb.mono hn)
theorem o_rcO (ho : ∀ a b, compareOp op a b = richCompare op a b) (h : RcO op c n d e r) (I : Is F c b true) (hn : n ≤ b.lv) (k : Po (.bl r) G) : Op F B (compareOp op) d e G Po := by
  intro σ P H x y Q hh r1 r2 hq
  intro cc pins s σ' v u I0 rv ru
  have Cx := F.ok cc
  have rm := (Cx.room I.cm).mono (by rw [I.lv]; exact hn)
  rw [ho]
  refine wpAny_mono (h I σ P H x y hh r1 r2 cc (F.X cc).A pins s σ' v u ⟨rm, rfl⟩ I0 rv ru) (fun w s' q => ?_) fun _ _ x => x
  obtain ⟨rfl, P', H', I', h', xp, _⟩ := q
  exact ⟨.bl r, H', I', rfl, hq _ G _ P' H' k h' xp (.bl r)⟩
theorem o_eqK (h : RcD c n d e r) (I : Is F c b true) (hn : n ≤ b.lv) (k : Po (.bl r) G) : Op F B (compareOp .Eq) d e G Po := o_rcO (fun _ _ => rfl) h I hn k
end
/-! ### what type stands there -/
/-- the type of a datum -/
def tyK : D → Option Value
  | .tup _ => some (.type "tuple")
  | .tux _ => some (.type "tuple")
  | .lst _ => some (.type "list")
  | .ins C _ => some (.ref C)
  | .non => some (.type "NoneType")
  | .bl _ => some (.type "bool")
  | .int _ => some (.type "int")
  | .str _ => some (.type "str")
  | _ => none
theorem looks_ty {X : Cx} {pins : List (Addr × PySem.Obj)} {σ : L2.St} {H P : Hp} {s : Shared} {v : V} {u tb : Value} {d : D} (I : Inv X pins σ H s) (ex : Ex P H) (h : Rp X.K P v d) (ru : RelV v u) (ht : tyK d = some tb) : PySem.W.Looks (model X.prog X.w) s.heap (typeOf u) tb := by
  have tupc : ∀ {a : Addr} {vs : List V}, SqT X.K H a vs → PySem.W.Looks (model X.prog X.w) s.heap (typeOf (.ref a)) (.type "tuple") := fun h => by
    obtain ⟨its, _, ⟨ob, ho, hc, _⟩, _⟩ := I.tuple h
    exact looks_cls ho hc
  cases h with
  | non => cases ru; cases ht; exact PySem.W.Looks.of_pure rfl
  | bl b => cases ru; cases ht; exact PySem.W.Looks.of_pure rfl
  | int i => obtain ⟨t, rfl⟩ := ru; cases ht; exact PySem.W.Looks.of_pure rfl
  | str i => obtain ⟨t, rfl⟩ := ru; cases ht; exact PySem.W.Looks.of_pure rfl
  | ty n => cases ht
  | ref a => cases ht
  | emp _ => cases ht
  | tux h _ _ => cases ru; cases ht; exact tupc (.inl (.inr ⟨_, ex _ _ h⟩))
  | tup h _ => cases ru; cases ht; exact tupc (ex.sqT h)
  | lst h _ =>
    cases ru; cases ht
    obtain ⟨its, _, ⟨ob, n, ho, hc, _⟩, _⟩ := I.list (ex.sqL h)
    exact looks_cls ho hc
  | ins h _ =>
    cases ru; cases ht
    obtain ⟨mA, J, _⟩ := ins_get I.hok (ex _ _ h)
    obtain ⟨od, J, _⟩ := J.look
    exact J.type
/-! ### flat data -/
/-! ### objects inside lists -/
/-! ### lists and tuples -/
section
variable {c : Cn} {n : Nat} {ds es : List D}
end
end TV
/-! == and != of an instance with an own ==, on either side. -/
namespace TV
open PySem PySem.Spec PyProof.Rows L2
section
variable {X : Cx} {k : Nat} {f C : Addr} {fd : FuncData} {ps : List Str} {sp : Sp} {E : XK}
theorem call_own {pins : List (Addr × Obj)} {σ : L2.St} {H : Hp} {s : Shared} {Q : VK} {A : Around} {a : Addr} {y : V} {u : Value} (Fo : FnOk X.prog X.w X.K X.mg X.base (L2.CX X.prog X.w) k f fd ps sp) (hb : Binds X.K fd ps []) (hx : PassesAt (L2.CX X.prog X.w) X σ E) (sb : Sub X k A) (I : Inv X pins σ H s) (ry : RelV y u)
    (h : sp [.ref a, y] H (fun v H' => (∃ z, v = .bl z) ∧ Q v H') E) : wpAny (model X.prog X.w) A (call (.ref f) [.ref a, u]) (fun r s' => ∃ z H', r = .bool z ∧ Inv X pins σ H' s' ∧ Q (.bl z) H') X.xe s := by
  have e0 : Env0 X.prog X.w X.K X.mg X.base A X.stack s H := by
    have e := I.env0
    exact ⟨by rw [sb.fr]; exact e.frames, e.mod, e.bs, e.bsz, e.funs, e.frf, e.hok, e.bare⟩
  have hl := Fo.len _ _ _ _ h
  have r2 : Vals [V.ref a, y] [Value.ref a, u] := .cons rfl (.cons ry .nil)
  refine wpAny_call (codeAny_mono (Fo.run A X.stack s H ⟨[.ref a, u], []⟩ [.ref a, u] [.ref a, y] _ E sb.room e0 (by
    have := hb s [.ref a, u] I.kIn (by simpa using hl)
    simpa using this) r2 h) fun r s' hq => ?_)
  cases r with
  | error e => exact hx pins H s e s' I hq
  | ok fl =>
    cases fl with
    | ret w =>
      obtain ⟨z, H', I', rz, ⟨z', rfl⟩, q⟩ := I.after hq
      cases rz
      exact ⟨z', H', rfl, I', q⟩
    | next => exact False.elim hq
    | brk => exact False.elim hq
    | cont => exact False.elim hq
end
section
variable {c : Cn} {k : Nat} {C : Addr} {T : PT} {fs : Fs} {e : D} {r : Bool} {tb : Value}
/-- the own == runs, and says r -/
theorem own_runs (M : Mth c k C "__eq__" 2 T) (t : T [.pu (.ins C fs), .pu e] (fun d _ => d = .bl r) (fun _ _ _ => False)) : ∃ f, Meth c.K C "__eq__" f ∧ ∀ {F : Fm} {B : Bs} {G : Gam} {b : Bd}, Is F c b true → ∀ (σ : L2.St) (P H : Hp) (a : Addr) (y : V), Holds F.K B G σ P H → Rp F.K P (.ref a) (.ins C fs) → Rp F.K P y e →
    ∀ (cc : F.J) (A : Around) (pins : List (Addr × Obj)) (s : Shared) (σ' : L2.St) (u : Value), Sub (F.X cc) k A → Inv (F.X cc) pins σ' H s → RelV y u → wpAny (model (F.X cc).prog (F.X cc).w) A (call (.ref f) [.ref a, u]) (fun w s' => w = .bool r ∧ Kept F B G σ P H cc pins σ' s') (F.X cc).xe s := by
  obtain ⟨f, fd, ps, hm, hb, hl, ok⟩ := M.ex
  refine ⟨f, hm, fun {F B G b} I σ P H a y hh r1 r2 cc A pins s σ' u sb I0 ru => ?_⟩
  have Cx := F.ok cc
  have o1 := fn_at I ok cc
  refine wpAny_mono (call_own (Q := fun v H2 => v = .bl r ∧ ∃ P2, Holds F.K B G σ P2 H2 ∧ Ex P P2 ∧ ∀ q u, H q = some u → H2 q = some u) (E := L2.WE F.W σ') o1 (by rw [Cx.eK, I.eK]; exact hb) (passAt Cx.tk σ') sb I0 ru ?_) (fun w s' q => ?_) fun _ _ x => x
  · rw [← I.eK]
    refine ⟨_, [], P, _, _, rfl, .pu r1 (.pu r2 .nil), List.nodup_nil, hh.ex, t, fun d' obs v' P2 H2 sl σ2 po h2 rv => ?_, fun C' fs' obs a' P2 H2 sl σ2 er h2 => er.elim⟩
    obtain ⟨z1, z2⟩ := hh.call0 h2
    subst po
    cases rv
    exact ⟨⟨r, rfl⟩, rfl, P2, z1, z2, fun q u w => h2.h0 q u (by intro y; cases y) w⟩
  · obtain ⟨z, H2, rfl, I2, hz, P2, z1, z2, z3⟩ := q
    cases hz
    exact ⟨rfl, P2, H2, I2, z1, z2, z3⟩
/-- x == e, x an instance -/
theorem rc_ownL (M : Mth c k C "__eq__" 2 T) (tt : tyK e = some tb) (nf : PySem.W.notFirst c.K C tb = true) (t : T [.pu (.ins C fs), .pu e] (fun d _ => d = .bl r) (fun _ _ _ => False)) : RcD c k (.ins C fs) e r := by
  obtain ⟨f, hm, run⟩ := own_runs M t
  intro F B G b I σ P H x y hh r1 r2 cc A pins s σ' v u sb I0 rv ru
  have q1 := r1
  cases r1 with
  | @ins a1 _ dx us _ ha rf =>
    cases rv
    have Cx := F.ok cc
    obtain ⟨mA, J, _⟩ := ins_get I0.hok (hh.ex _ _ ha)
    obtain ⟨od, J, _⟩ := J.look
    obtain ⟨m, hF⟩ := I0.fr
    have ty := looks_ty (X := F.X cc) I0 hh.ex (by rw [Cx.eK]; exact r2) ru tt
    refine PySem.W.cmp_K (op := .Eq) (tb := tb) sb.room.units0 hF I0.ok.mod.kin J ty (by rw [Cx.eK, I.eK]; exact nf) (by rw [Cx.eK, I.eK]; exact hm.at_) (by rw [Cx.eK, I.eK]; exact hm.fn) ?_
    refine wpAny_mono (run I σ P H a1 y hh q1 r2 cc A pins s σ' u sb I0 ru) (fun w s' q => ?_) fun _ _ x => x
    obtain ⟨rfl, q⟩ := q
    exact ⟨rfl, q⟩
/-- x == y of one class -/
theorem rc_own1 {gs : Fs} (M : Mth c k C "__eq__" 2 T) (t : T [.pu (.ins C fs), .pu (.ins C gs)] (fun d _ => d = .bl r) (fun _ _ _ => False)) : RcD c k (.ins C fs) (.ins C gs) r :=
  rc_ownL M rfl (by simp [PySem.W.notFirst]) t
end
end TV
/-! == of a list, a tuple or None with an instance: the instance's own == is asked. -/
namespace PySem.W
open PySem PySem.Spec PySem.Calls PyProof.Rows
section
variable {prog : Program} {w : World} {A : Around} {E : Value → Shared → Prop} {s : Shared} {K : Frag} {x C : Addr} {ox : Obj} {od : Option Obj}
end
end PySem.W
namespace TV
open PySem PySem.Spec PyProof.Rows L2
section
variable {c : Cn} {k : Nat} {C : Addr} {T : PT} {fs : Fs} {r : Bool}
end
end TV
/-! len(set(x)), x a list or a tuple of different ints. -/
namespace TV
open PySem PySem.Spec PyProof.Rows L2
section
variable {X : Cx}
end
section
variable {F : Fm} {B : Bs} {G : Gam} {c : Cn} {b : Bd} {m : Bool} {Po : PoE} {Er : ErE} {p pos : Pos} {e : Expr}
end
/-! ### == of lists and tuples of rows -/
section
variable {F : Fm} {B : Bs} {G : Gam} {Po : PoE}
end
end TV
/-! A region lent beside a handed-in list; a comprehension with any state; x[::-1]. -/
namespace TV
open PySem PySem.Spec PyProof.Rows L2
section
variable {F : Fm} {B : Bs} {c : Cn} {b : Bd} {m : Bool} {Po : PoE} {Er : ErE} {nx : Gam → Prop} {R : Rs} {i j : Nat} {e o : Expr} {l l1 sl : List Sl} {sts : List Stmt} {ys : List D} {L : List Rg} {pos apos : Pos} {Pb : Bool → Gam → Prop}
end
section
variable {F F' : Fm} {B : Bs} {G G1 : Gam} {c : Cn} {b : Bd} {Po : PoE} {Er : ErE} {nx : Gam → Prop} {R : Rs} {pos : Pos} {tg iter elt t : Expr} {body : List Stmt} {js vs : List Nat} {ds : List D}
end
section
variable {F : Fm} {B : Bs} {G : Gam} {Po : PoE} {Er : ErE} {a : Expr} {k : Nat} {p1 p2 p3 pos : Pos}
end
end TV
/-! A written dict of one entry; len(set(x)), x a list of ints. -/
namespace TV
open PySem PySem.Spec PyProof.Rows L2
section
variable {F : Fm} {B : Bs} {G : Gam} {Po : PoE} {Er : ErE} {pos p1 p2 : Pos} {k1 k2 : Nat} {n m : Int}
end
section
variable {X : Cx}
end
section
variable {F : Fm} {B : Bs} {G : Gam} {c : Cn} {b : Bd} {m : Bool} {Po : PoE} {Er : ErE} {p pos : Pos} {e : Expr}
end
end TV
/-! tuple(range(n)). -/
namespace TV
open PySem PySem.Spec PyProof.Rows L2
section
variable {F : Fm} {B : Bs} {G : Gam} {c : Cn} {b : Bd} {Po : PoE} {Er : ErE} {p p2 pos pos2 : Pos} {a : Expr}
end
end TV
/-! Texts. -/
namespace TV
open PySem PySem.Spec PyProof.Rows L2
section
variable {F : Fm} {B : Bs} {G : Gam} {c : Cn} {b : Bd} {m : Bool} {Po : PoE} {Er : ErE} {o e : Expr} {apos pos : Pos}
end
section
variable {F : Fm} {B : Bs} {G : Gam} {c : Cn} {b : Bd} {m : Bool} {Po : PoE} {Er : ErE} {x y : Str} {i : Int}
theorem o_catS (hl : x.length + y.length ≤ 1000000) (k : Po (.str (x ++ y)) G) : Op F B (binaryOp .Add) (.str x) (.str y) G Po :=
  op_of (fun _ => op_add_str) fun σ P H u v Q hh r1 r2 hq => by cases r1; cases r2; exact ⟨x, y, rfl, rfl, by rw [sizeLine_eq]; omega, hq _ G _ P H k hh Ex.rfl (.str _)⟩
end
section
variable {F : Fm} {B : Bs} {G : Gam} {Po : PoE} {Er : ErE} {a b e : Expr} {p2 pos : Pos} {tg : Expr}
end
end TV
/-! text * int. -/
namespace TV
open PySem PySem.Spec PyProof.Rows L2
section
variable {F : Fm} {B : Bs} {G : Gam} {Po : PoE} {x : Str} {i : Int}
end
end TV
/-! Numerals. -/
namespace TV
open PySem PySem.Spec PyProof.Rows L2 TL
/-! ### the text of a number -/
abbrev tS (i : Int) : Str := Str.ofString (toString i)
theorem tl_nat (n : Nat) : tl (tS (n : Int)) = numL n := tl_num n
theorem tl_neg (n : Nat) (h : 0 < n) : tl (tS (-(n : Int))) = 45 :: numL n := by
  have e := toString_neg (n := -(n : Int)) (by omega)
  show tl (Str.ofString (toString (-(n : Int)))) = _
  rw [e, tl_ofString, String.toList_append, List.map_append, show (0 : Int) - -(n : Int) = (n : Int) from by omega]
  have := tl_num n
  rw [tl_ofString] at this
  rw [this]
  rfl
theorem tl_int (i : Int) : (0 ≤ i ∧ tl (tS i) = numL i.toNat) ∨ (i < 0 ∧ tl (tS i) = 45 :: numL (-i).toNat) := by
  by_cases h : 0 ≤ i
  · obtain ⟨n, rfl⟩ := Int.eq_ofNat_of_zero_le h
    exact .inl ⟨h, by rw [tl_nat]; rfl⟩
  · refine .inr ⟨by omega, ?_⟩
    have := tl_neg (-i).toNat (by omega)
    rw [show (-(((-i).toNat : Nat) : Int)) = i from by omega] at this
    exact this
end TV
/-! Parts of a text. -/
namespace TV
open PySem PySem.Spec PyProof.Rows L2 TL
theorem len_cat (x y : Str) : (x ++ y).length = x.length + y.length := by rw [len_tl, tl_append, List.length_append, ← len_tl, ← len_tl]
end TV
/-! One sign in a text; parts of a text by places. -/
namespace TV
open PySem PySem.Spec PyProof.Rows L2 TL
section
variable {F : Fm} {B : Bs} {G : Gam} {Po : PoE} {y : Str} {n : Nat}
end
end TV
/-! list * int as a list of one's own; how long the text of a number is. -/
namespace TV
open PySem PySem.Spec PyProof.Rows L2 TL
section
variable {F : Fm} {B : Bs} {G : Gam} {Er : ErE} {pos : Pos} {e1 e2 : Expr} {PoO : Ob → Gam → Prop}
end
theorem len_textK {i : Int} {k : Nat} (hk : 0 < k) (h : i.natAbs < 10 ^ k) : (tS i).length ≤ k + 1 := by
  rcases tl_int i with ⟨h0, e⟩ | ⟨h0, e⟩
  · have := numL_len (n := i.toNat) hk (by omega)
    rw [len_tl, e]; omega
  · have := numL_len (n := (-i).toNat) hk (by omega)
    rw [len_tl, e, List.length_cons]; omega
end TV
/-! A loop over a display in which nothing changes; find; f-strings of three parts; partition by the place. -/
namespace TV
open PySem PySem.Spec PyProof.Rows L2 TL
section
variable {F : Fm} {B : Bs} {G : Gam} {c : Cn} {b : Bd} {nx : Gam → Prop} {R : Rs} {pos : Pos} {tg iter : Expr} {body : List Stmt} {js : List Nat}
end
section
variable {F : Fm} {B : Bs} {G : Gam} {Po : PoE} {Er : ErE} {o e e1 e2 e3 : Expr} {apos pos : Pos}
theorem cat_nil (y : Str) : Str.empty ++ y = y := ext_tl (by rw [tl_append]; rfl)
/-- an f-string of three parts -/
theorem v_joined3 (h : WE F B e1 G (fun d1 G1 => ∃ x, d1 = .str x ∧ x.length ≤ 300000 ∧ WE F B e2 G1 (fun d2 G2 => ∃ y, d2 = .str y ∧ y.length ≤ 300000 ∧ WE F B e3 G2 (fun d3 G3 => ∃ z, d3 = .str z ∧ z.length ≤ 300000 ∧ Po (.str (x ++ y ++ z)) G3) Er) Er) Er) : WE F B (.JoinedStr [e1, e2, e3] pos) G Po Er := by
  intro σ P H Q hh hq hr
  refine of_pe (fun cc => pe_joined (X := F.X cc) (.cons (eR_pe (e := e1) cc) (.cons (eR_pe (e := e2) cc) (.cons (eR_pe (e := e3) cc) .nil)))) ?_
  refine h σ P H _ hh (fun d G1 v P1 H1 w1 h1 x1 r1 => ?_) hr
  obtain ⟨x, rfl, hl, k⟩ := w1
  cases r1
  refine ⟨x, rfl, by rw [cat_nil, sizeLine_eq]; omega, ?_⟩
  refine k σ P1 H1 _ h1 (fun d2 G2 v2 P2 H2 w2 h2 x2 r2 => ?_) hr
  obtain ⟨y, rfl, hl2, k2⟩ := w2
  cases r2
  refine ⟨y, rfl, by rw [cat_nil, len_cat, sizeLine_eq]; omega, ?_⟩
  refine k2 σ P2 H2 _ h2 (fun d3 G3 v3 P3 H3 w3 h3 x3 r3 => ?_) hr
  obtain ⟨z, rfl, hl3, k3⟩ := w3
  cases r3
  refine ⟨z, rfl, by rw [cat_nil, len_cat, len_cat, sizeLine_eq]; omega, ?_⟩
  rw [cat_nil]
  exact hq _ G3 _ P3 H3 k3 h3 ((x1.trans x2).trans x3) (.str _)
end
end TV
/-! Plans as texts: the plain law. -/
namespace TV
open PySem PySem.Spec PyProof.Rows L2 TL
end TV
/-! Conditions and clashes as texts: the plain law. -/
namespace TV
open PySem PySem.Spec PyProof.Rows L2 TL
def sg (l : Bool) : Str := if l = true then Str.ofString ">=" else Str.ofString "<="
def cTx (r : Row) : Str := tS r.1 ++ sg r.2.1 ++ tS r.2.2
theorem sg_len (l : Bool) : (sg l).length = 2 := by cases l <;> decide +kernel
/-! clashes -/
end TV
/-! x.replace of written texts in a display, behind a written text (a token is out). -/
namespace TV
open PySem PySem.Spec PyProof.Rows L2 PySem.StrLaws PySem.Builtin.Str
section
variable {X : Cx} {es : List Expr} {ta : TA} {x : Str} {j : Nat} {p : Pos}
end
section
variable {J : Type} (X : J → Cx)
end
section
variable {J : Type} {X : J → Cx} {es : List Expr}
end
section
variable {F : Fm} {B : Bs} {G : Gam} {Er : ErE} {e o : Expr} {es : List Expr} {x y z : Str} {j j0 j1 : Nat} {p c0 c1 apos pos : Pos} {Pa : List AV → Gam → Prop}
end
end TV
/-! o.m() where o is an instance of one of two classes. -/
namespace TV
open PySem PySem.Spec PyProof.Rows L2
def tMeth2 (C C2 : Addr) (m : Str) (sp sp2 : Sp) (E : L2.St → XK) (ta : TE) : TE := fun σ H Q => ta σ H fun x H1 => ∃ a dx fs, x = .ref a ∧ fs.lookup m = none ∧ ((H1 a = some (.ins C dx fs) ∧ sp [x] H1 Q (E σ)) ∨ (H1 a = some (.ins C2 dx fs) ∧ sp2 [x] H1 Q (E σ)))
section
variable {X : Cx} {o : Expr} {ta : TE} {C C2 f f2 : Addr} {m : Str} {k k2 : Nat} {fd fd2 : FuncData} {ps ps2 : List Str} {sp sp2 : Sp} {E : L2.St → XK} {apos pos : Pos}
theorem pe_meS02 {pl : Sem Bool} (he : PE X o ta) (c : Cls X.K C) (hm : Meth X.K C m f) (F : FnOk X.prog X.w X.K X.mg X.base (L2.CX X.prog X.w) k f fd ps sp) (hr : Room k X.A) (hb : Binds X.K fd ps [])
    (c2 : Cls X.K C2) (hm2 : Meth X.K C2 m f2) (F2 : FnOk X.prog X.w X.K X.mg X.base (L2.CX X.prog X.w) k2 f2 fd2 ps2 sp2) (hr2 : Room k2 X.A) (hb2 : Binds X.K fd2 ps2 []) (hx : ∀ σ, PassesAt (L2.CX X.prog X.w) X σ (E σ))
    (ht : eval (.Call (.Attribute o m apos) [] [] pos) X.env = (do
      let ov ← eval o X.env
      standAt apos.atName
      let (f, first) ← holding [ov] (getMethod ov m pl)
      callWith pos f first (backTo pos (starEach [] X.env)) (backToKw pos (keywordEach [] X.env)))) :
    PE X (.Call (.Attribute o m apos) [] [] pos) (tMeth2 C C2 m sp sp2 E ta) := by
  refine ⟨fun pins s σ H Q I h => ?_⟩
  refine PySem.W.methodCall_KW (pl := pl) (thn (he.run pins s σ H _ I h) fun u s1 ⟨x, H1, I1, rx, a, dx, fs, ex, l, q⟩ => ?_) ht
  subst ex
  obtain rfl : u = Value.ref a := rx
  rcases q with ⟨ea, q⟩ | ⟨ea, q⟩
  · refine getmeth_ok I1 ea c hm l ?_
    exact PySem.W.callWith_K0 (first := [.ref a]) I1.kIn hm.kp (run_fnS (us := [.ref a]) (vs := [.ref a]) F hr hb (hx σ) I1 (.cons rfl .nil) q)
  · refine getmeth_ok I1 ea c2 hm2 l ?_
    exact PySem.W.callWith_K0 (first := [.ref a]) I1.kIn hm2.kp (run_fnS (us := [.ref a]) (vs := [.ref a]) F2 hr2 hb2 (hx σ) I1 (.cons rfl .nil) q)
end
section
variable {F : Fm} {B : Bs} {G : Gam} {c : Cn} {b : Bd} {Po : PoE} {Er : ErE} {k k2 : Nat} {C C2 : Addr} {T T2 : PT} {pos apos : Pos} {o : Expr} {mn : Str}
theorem v_meth02 {pl : Env → Sem Bool} (I : Is F c b true) (M : Mth c k C mn 1 T) (M2 : Mth c k2 C2 mn 1 T2) (cl : Cls c.K C) (cl2 : Cls c.K C2) (hk : k ≤ b.lv) (hk2 : k2 ≤ b.lv)
    (ht : ∀ env, eval (.Call (.Attribute o mn apos) [] [] pos) env = (do
      let ov ← eval o env
      standAt apos.atName
      let (f, first) ← holding [ov] (getMethod ov mn (pl env))
      callWith pos f first (backTo pos (starEach [] env)) (backToKw pos (keywordEach [] env))))
    (h : WE F B o G (fun d G1 => (∃ fs, d = .ins C fs ∧ fs.lookup mn = none ∧ T [.pu (.ins C fs)] (fun d' _ => Po d' G1) (fun C' fs' _ => Er C' fs' G1)) ∨ (∃ fs, d = .ins C2 fs ∧ fs.lookup mn = none ∧ T2 [.pu (.ins C2 fs)] (fun d' _ => Po d' G1) (fun C' fs' _ => Er C' fs' G1))) Er) : WE F B (.Call (.Attribute o mn apos) [] [] pos) G Po Er := by
  obtain ⟨f, fd, ps, hm, hb, hl, ok⟩ := M.ex
  obtain ⟨f2, fd2, ps2, hm2, hb2, hl2, ok2⟩ := M2.ex
  intro σ P H Q hh hq hr
  refine of_pe (t := tMeth2 C C2 mn (spOf F.K T 1) (spOf F.K T2 1) (L2.WE F.W) (eR F.X o)) (fun cc => ?_) ?_
  · have Cx := F.ok cc
    have o1 := fn_at I ok cc
    have o2 := fn_at I ok2 cc
    rw [← I.eK] at o1 o2
    exact pe_meS02 (eR_pe cc) (by rw [Cx.eK, I.eK]; exact cl) (by rw [Cx.eK, I.eK]; exact hm) o1 ((Cx.room I.cm).mono (by rw [I.lv]; exact hk)) (by rw [Cx.eK, I.eK]; exact hb)
      (by rw [Cx.eK, I.eK]; exact cl2) (by rw [Cx.eK, I.eK]; exact hm2) o2 ((Cx.room I.cm).mono (by rw [I.lv]; exact hk2)) (by rw [Cx.eK, I.eK]; exact hb2) (fun σ => passAt Cx.tk σ) (ht _)
  · refine h σ P H _ hh (fun d G1 v P1 H1 w1 h1 x1 r1 => ?_) hr
    rcases w1 with ⟨fs, rfl, lk, t⟩ | ⟨fs, rfl, lk, t⟩
    · have r0 := r1
      cases r1 with
      | @ins a _ dx us _ ha rf =>
        exact ⟨a, dx, us, rfl, rf.none_of lk, .inl ⟨h1.ex _ _ ha, sp_at h1 x1 (.pu r0 .nil) rfl t hq hr⟩⟩
    · have r0 := r1
      cases r1 with
      | @ins a _ dx us _ ha rf =>
        exact ⟨a, dx, us, rfl, rf.none_of lk, .inr ⟨h1.ex _ _ ha, sp_at h1 x1 (.pu r0 .nil) rfl t hq hr⟩⟩
end
end TV
/-! Regions that hold any data; region.reverse(); x[:-1]. -/
namespace TV
open PySem PySem.Spec PyProof.Rows L2
section
variable {K : PySem.W.Frag} {B : Bs} {σ : L2.St} {l : List Sl}
end
section
variable {F : Fm} {B : Bs} {c : Cn} {b : Bd} {m : Bool} {nx : Gam → Prop} {R : Rs} {i : Nat} {sts : List Stmt} {l sl : List Sl}
end
section
variable {F : Fm} {B : Bs} {c : Cn} {b : Bd} {m : Bool} {Po : PoE} {Er : ErE} {i : Nat} {e : Expr} {l l1 sl : List Sl}
end
section
variable {F : Fm} {B : Bs} {Po : PoE} {Er : ErE} {o : Expr} {l : List Sl} {L : List Rg} {pos apos : Pos}
end
end TV
/-! None == a tuple; == of lists of rows. -/
namespace PySem.W
open PySem PySem.Spec PyProof.Rows
section
variable {prog : Program} {w : World} {A : Around} {E : Value → Shared → Prop} {s : Shared}
end
end PySem.W
namespace TV
open PySem PySem.Spec PyProof.Rows L2
theorem eqD_row (r q : Row) : PyData.eqv (toPy (rowD r)) (toPy (rowD q)) = decide (r = q) := by
  obtain ⟨a, l, b⟩ := r
  obtain ⟨a', l', b'⟩ := q
  show PyData.eqv (.tuple [.int a, .bool l, .int b]) (.tuple [.int a', .bool l', .int b']) = _
  simp only [PyData.eqv, PyData.eqvAll, Bool.and_true]
  rw [Bool.eq_iff_iff]
  simp [Prod.mk.injEq]
section
variable {F : Fm} {B : Bs} {G : Gam} {Po : PoE} {xs ys : List Row}
end
end TV
/-! Texts of numbers of up to 4300 digits; C.f, a flag of the class. -/
namespace TV
open PySem PySem.Spec PyProof.Rows L2 ClX
theorem nodig {X : Cx} {pins : List (Addr × PySem.Obj)} {σ : L2.St} {H : Hp} {s : Shared} (I : Inv X pins σ H s) (nd : PySem.W.nsIn X.K cStatics "sys.int_max_str_digits" = some none) : s.heap.NoDigits := by
  obtain ⟨mc, hns, _⟩ := I.nolimit
  exact ⟨mc, hns, PySem.W.ns_none_of I.kIn hns nd⟩
theorem call_str_big {X : Cx} (hc : X.calm = true) (nd : PySem.W.nsIn X.K cStatics "sys.int_max_str_digits" = some none) : CallR X (.type "str") (fun xs H Q => ∃ i : Int, xs = [.int i] ∧ i.natAbs < 10 ^ 4300 ∧ Q (.str (toString i)) H) := by
  intro pins s σ H xs us Q I r h
  obtain ⟨i, rfl, hz, q⟩ := h
  obtain ⟨u, rfl, t, rfl⟩ := vals1 r
  exact str_of_int_or (I.ok.hd hc) (nodig I nd) (fun _ => ⟨.str _, H, I.tok _, ⟨_, rfl⟩, q⟩) fun hge => absurd hz (Nat.not_lt.mpr hge)
theorem pe_fmtB {X : Cx} {e : Expr} {te : TE} {pos : Pos} (hc : X.calm = true) (nd : PySem.W.nsIn X.K cStatics "sys.int_max_str_digits" = some none) (he : PE X e te) : PE X (.FormattedValue e (-1) none pos) (fun σ H Q => te σ H fun x H1 => ∃ i : Int, x = .int i ∧ i.natAbs < 10 ^ 4300 ∧ Q (.str (toString i)) H1) := by
  refine ⟨fun pins s σ H Q I h => ?_⟩
  refine wpAny_FormattedValue_plain (thn (he.run pins s σ H _ I h) fun v s1 hv => ?_)
  obtain ⟨x, H1, I1, r1, i, rfl, hz, q⟩ := hv
  obtain ⟨t, rfl⟩ := r1
  exact formatField_int (I1.ok.hd hc) (nodig I1 nd) (fun _ => ⟨.str (toString i), H1, I1.tok _, ⟨_, rfl⟩, q⟩) fun hge => absurd hz (Nat.not_lt.mpr hge)
section
variable {F : Fm} {B : Bs} {G : Gam} {c : Cn} {b : Bd} {Po : PoE} {Er : ErE} {i : Int} {e : Expr} {pos : Pos}
theorem c_strB (I : Is F c b true) (nd : PySem.W.nsIn c.K cStatics "sys.int_max_str_digits" = some none) (hz : i.natAbs < 10 ^ 4300) (k : Po (.str (toString i)) G) : Cb F B (.type "str") [.pu (.int i)] G Po Er :=
  cb_of (ds := [.int i]) (fun cc => call_str_big ((F.ok cc).calm.trans I.cm) (by rw [(F.ok cc).eK, I.eK]; exact nd)) (.cons .nil) fun σ P H xs Q hh rl hq => by
    cases rl with
    | cons r1 r2 =>
      cases r2; cases r1
      exact ⟨i, rfl, hz, hq _ G _ P H k hh Ex.rfl (.str _)⟩
theorem v_fmtB (I : Is F c b true) (nd : PySem.W.nsIn c.K cStatics "sys.int_max_str_digits" = some none) (h : WE F B e G (fun d G1 => ∃ i : Int, d = .int i ∧ i.natAbs < 10 ^ 4300 ∧ Po (.str (toString i)) G1) Er) : WE F B (.FormattedValue e (-1) none pos) G Po Er := by
  intro σ P H Q hh hq hr
  refine of_pe (fun cc => pe_fmtB (X := F.X cc) ((F.ok cc).calm.trans I.cm) (by rw [(F.ok cc).eK, I.eK]; exact nd) (eR_pe (e := e) cc)) ?_
  refine h σ P H _ hh (fun d G1 v P1 H1 w1 h1 x1 r1 => ?_) hr
  obtain ⟨i, rfl, hl, k⟩ := w1
  cases r1
  exact ⟨i, rfl, hl, hq _ G1 _ P1 H1 k h1 x1 (.str _)⟩
end
/-- a flag that is read off a class -/
def cvB : Option PySem.W.CFound → Bool → Bool
  | some (.val (.bool x)), y => x == y
  | _, _ => false
theorem cvB_ok {o : Option PySem.W.CFound} {y : Bool} (h : cvB o y = true) : o = some (.val (.bool y)) := by
  unfold cvB at h
  split at h
  · rename_i x
    have : x = y := by simpa using h
    rw [this]
  · cases h
section
variable {F : Fm} {B : Bs} {G : Gam} {c : Cn} {b : Bd} {Po : PoE} {Er : ErE} {e : Expr} {f : Str} {pos : Pos}
theorem v_cval {y : Bool} (I : Is F c b true) (hb : ∀ env, attributeBase e f env (eval e env) = eval e env) (h : WE F B e G (fun d G1 => ∃ C, d = .ref C ∧ PySem.W.readsIn c.K C (.type "type") = true ∧ PySem.W.specialIn c.K (.ref C) "__getattribute__" = some (some (.builtin "type.__getattribute__")) ∧ cvB (PySem.W.findCls c.K (.ref C) (.type "type") f) y = true ∧ Po (.bl y) G1) Er) : WE F B (.Attribute e f pos) G Po Er := by
  intro σ P H Q hh hq hr
  refine of_pe (fun cc => by have z := pe_cval (X := F.X cc) (f := f) (pos := pos) (eR_pe (e := e) cc) (hb _); rw [(F.ok cc).eK] at z; exact z) ?_
  refine h σ P H _ hh (fun d G1 v P1 H1 w1 h1 x1 r1 => ?_) hr
  obtain ⟨C, rfl, h2, h3, h4, k⟩ := w1
  cases r1
  exact ⟨C, .type "type", .bl y, .bool y, rfl, ⟨by rw [I.eK]; exact h2, by rw [I.eK]; exact h3⟩, ⟨by rw [I.eK]; exact cvB_ok h4, rfl⟩, hq _ G1 _ P1 H1 k h1 x1 (.bl y)⟩
end
end TV

namespace TV
open PySem PySem.Spec PyProof.Rows L2
def top (i : Nat) : Stmt := PySem.Challenge.pw_threevotes_k06_conditions_and_opposites.main.body.getD i (.Pass ⟨0, 0, 0, 0⟩)
def inClass (s : Stmt) (j : Nat) : Stmt := (match s with
  | .ClassDef (body := body) .. => body.getD j (.Pass ⟨0, 0, 0, 0⟩)
  | s => s)
abbrev s_law_take : Stmt := top 4
abbrev nm_law_take : Nms := [("_law_script", true, true), ("_law_stock", true, true), ("_law_size", true, true), ("_law_digit", true, true), ("_law_cell", true, true), ("_law_number_here", true, true)]
abbrev gl_law_take : List Str := ["int", "len"]
theorem sc_law_take : FnScope (nm_law_take.map (·.1)) ["_law_script", "_law_stock", "_law_size"] (defScope s_law_take) := ⟨rfl, rfl, rfl, by decide +kernel, rfl, by decide +kernel, by decide +kernel⟩
theorem nb_law_take : nmB true (defScope s_law_take) nm_law_take = true := by decide +kernel
theorem gb_law_take : glB (defScope s_law_take) gl_law_take = true := by decide +kernel
abbrev s_law_is_integer : Stmt := top 6
abbrev nm_law_is_integer : Nms := [("_law_actual", true, true)]
abbrev gl_law_is_integer : List Str := ["isinstance", "int", "bool"]
theorem sc_law_is_integer : FnScope (nm_law_is_integer.map (·.1)) ["_law_actual"] (defScope s_law_is_integer) := ⟨rfl, rfl, rfl, by decide +kernel, rfl, by decide +kernel, by decide +kernel⟩
theorem nb_law_is_integer : nmB true (defScope s_law_is_integer) nm_law_is_integer = true := by decide +kernel
theorem gb_law_is_integer : glB (defScope s_law_is_integer) gl_law_is_integer = true := by decide +kernel
abbrev s_AtLeast_init : Stmt := inClass (top 1) 1
abbrev nm_AtLeast_init : Nms := [("self", true, true), ("dial", true, true), ("number", true, true)]
abbrev gl_AtLeast_init : List Str := []
theorem sc_AtLeast_init : FnScope (nm_AtLeast_init.map (·.1)) ["self", "dial", "number"] (defScope s_AtLeast_init) := ⟨rfl, rfl, rfl, by decide +kernel, rfl, by decide +kernel, by decide +kernel⟩
theorem nb_AtLeast_init : nmB true (defScope s_AtLeast_init) nm_AtLeast_init = true := by decide +kernel
theorem gb_AtLeast_init : glB (defScope s_AtLeast_init) gl_AtLeast_init = true := by decide +kernel
abbrev s_AtMost_init : Stmt := inClass (top 2) 1
abbrev nm_AtMost_init : Nms := [("self", true, true), ("dial", true, true), ("number", true, true)]
abbrev gl_AtMost_init : List Str := []
theorem sc_AtMost_init : FnScope (nm_AtMost_init.map (·.1)) ["self", "dial", "number"] (defScope s_AtMost_init) := ⟨rfl, rfl, rfl, by decide +kernel, rfl, by decide +kernel, by decide +kernel⟩
theorem nb_AtMost_init : nmB true (defScope s_AtMost_init) nm_AtMost_init = true := by decide +kernel
theorem gb_AtMost_init : glB (defScope s_AtMost_init) gl_AtMost_init = true := by decide +kernel
abbrev s_AtLeast_invert : Stmt := inClass (top 1) 4
abbrev nm_AtLeast_invert : Nms := [("self", true, true)]
abbrev gl_AtLeast_invert : List Str := ["AtMost"]
theorem sc_AtLeast_invert : FnScope (nm_AtLeast_invert.map (·.1)) ["self"] (defScope s_AtLeast_invert) := ⟨rfl, rfl, rfl, by decide +kernel, rfl, by decide +kernel, by decide +kernel⟩
theorem nb_AtLeast_invert : nmB true (defScope s_AtLeast_invert) nm_AtLeast_invert = true := by decide +kernel
theorem gb_AtLeast_invert : glB (defScope s_AtLeast_invert) gl_AtLeast_invert = true := by decide +kernel
abbrev s_AtMost_invert : Stmt := inClass (top 2) 4
abbrev nm_AtMost_invert : Nms := [("self", true, true)]
abbrev gl_AtMost_invert : List Str := ["AtLeast"]
theorem sc_AtMost_invert : FnScope (nm_AtMost_invert.map (·.1)) ["self"] (defScope s_AtMost_invert) := ⟨rfl, rfl, rfl, by decide +kernel, rfl, by decide +kernel, by decide +kernel⟩
theorem nb_AtMost_invert : nmB true (defScope s_AtMost_invert) nm_AtMost_invert = true := by decide +kernel
theorem gb_AtMost_invert : glB (defScope s_AtMost_invert) gl_AtMost_invert = true := by decide +kernel
abbrev s_AtLeast_key : Stmt := inClass (top 1) 2
abbrev nm_AtLeast_key : Nms := [("self", true, true)]
abbrev gl_AtLeast_key : List Str := []
theorem sc_AtLeast_key : FnScope (nm_AtLeast_key.map (·.1)) ["self"] (defScope s_AtLeast_key) := ⟨rfl, rfl, rfl, by decide +kernel, rfl, by decide +kernel, by decide +kernel⟩
theorem nb_AtLeast_key : nmB true (defScope s_AtLeast_key) nm_AtLeast_key = true := by decide +kernel
theorem gb_AtLeast_key : glB (defScope s_AtLeast_key) gl_AtLeast_key = true := by decide +kernel
abbrev s_AtMost_key : Stmt := inClass (top 2) 2
abbrev nm_AtMost_key : Nms := [("self", true, true)]
abbrev gl_AtMost_key : List Str := []
theorem sc_AtMost_key : FnScope (nm_AtMost_key.map (·.1)) ["self"] (defScope s_AtMost_key) := ⟨rfl, rfl, rfl, by decide +kernel, rfl, by decide +kernel, by decide +kernel⟩
theorem nb_AtMost_key : nmB true (defScope s_AtMost_key) nm_AtMost_key = true := by decide +kernel
theorem gb_AtMost_key : glB (defScope s_AtMost_key) gl_AtMost_key = true := by decide +kernel
abbrev s_AtLeast_eq : Stmt := inClass (top 1) 5
abbrev nm_AtLeast_eq : Nms := [("self", true, true), ("other", true, true)]
abbrev gl_AtLeast_eq : List Str := ["isinstance", "AtLeast"]
theorem sc_AtLeast_eq : FnScope (nm_AtLeast_eq.map (·.1)) ["self", "other"] (defScope s_AtLeast_eq) := ⟨rfl, rfl, rfl, by decide +kernel, rfl, by decide +kernel, by decide +kernel⟩
theorem nb_AtLeast_eq : nmB true (defScope s_AtLeast_eq) nm_AtLeast_eq = true := by decide +kernel
theorem gb_AtLeast_eq : glB (defScope s_AtLeast_eq) gl_AtLeast_eq = true := by decide +kernel
abbrev s_AtMost_eq : Stmt := inClass (top 2) 5
abbrev nm_AtMost_eq : Nms := [("self", true, true), ("other", true, true)]
abbrev gl_AtMost_eq : List Str := ["isinstance", "AtMost"]
theorem sc_AtMost_eq : FnScope (nm_AtMost_eq.map (·.1)) ["self", "other"] (defScope s_AtMost_eq) := ⟨rfl, rfl, rfl, by decide +kernel, rfl, by decide +kernel, by decide +kernel⟩
theorem nb_AtMost_eq : nmB true (defScope s_AtMost_eq) nm_AtMost_eq = true := by decide +kernel
theorem gb_AtMost_eq : glB (defScope s_AtMost_eq) gl_AtMost_eq = true := by decide +kernel
abbrev s_AtLeast_text : Stmt := inClass (top 1) 3
abbrev nm_AtLeast_text : Nms := [("self", true, true)]
abbrev gl_AtLeast_text : List Str := []
theorem sc_AtLeast_text : FnScope (nm_AtLeast_text.map (·.1)) ["self"] (defScope s_AtLeast_text) := ⟨rfl, rfl, rfl, by decide +kernel, rfl, by decide +kernel, by decide +kernel⟩
theorem nb_AtLeast_text : nmB true (defScope s_AtLeast_text) nm_AtLeast_text = true := by decide +kernel
theorem gb_AtLeast_text : glB (defScope s_AtLeast_text) gl_AtLeast_text = true := by decide +kernel
abbrev s_AtMost_text : Stmt := inClass (top 2) 3
abbrev nm_AtMost_text : Nms := [("self", true, true)]
abbrev gl_AtMost_text : List Str := []
theorem sc_AtMost_text : FnScope (nm_AtMost_text.map (·.1)) ["self"] (defScope s_AtMost_text) := ⟨rfl, rfl, rfl, by decide +kernel, rfl, by decide +kernel, by decide +kernel⟩
theorem nb_AtMost_text : nmB true (defScope s_AtMost_text) nm_AtMost_text = true := by decide +kernel
theorem gb_AtMost_text : glB (defScope s_AtMost_text) gl_AtMost_text = true := by decide +kernel
abbrev s_law_number : Stmt := top 5
abbrev nm_law_number : Nms := [("_law_script", true, true), ("_law_stock", true, true), ("_law_kind", true, true), ("_law_number_here", true, true)]
abbrev gl_law_number : List Str := ["_law_take"]
theorem sc_law_number : FnScope (nm_law_number.map (·.1)) ["_law_script", "_law_stock"] (defScope s_law_number) := ⟨rfl, rfl, rfl, by decide +kernel, rfl, by decide +kernel, by decide +kernel⟩
theorem nb_law_number : nmB true (defScope s_law_number) nm_law_number = true := by decide +kernel
theorem gb_law_number : glB (defScope s_law_number) gl_law_number = true := by decide +kernel
abbrev s_law_object : Stmt := top 7
abbrev nm_law_object : Nms := [("_law_row", true, true)]
abbrev gl_law_object : List Str := ["AtLeast", "AtMost"]
theorem sc_law_object : FnScope (nm_law_object.map (·.1)) ["_law_row"] (defScope s_law_object) := ⟨rfl, rfl, rfl, by decide +kernel, rfl, by decide +kernel, by decide +kernel⟩
theorem nb_law_object : nmB true (defScope s_law_object) nm_law_object = true := by decide +kernel
theorem gb_law_object : glB (defScope s_law_object) gl_law_object = true := by decide +kernel
abbrev s_law_is_row : Stmt := top 8
abbrev nm_law_is_row : Nms := [("_law_actual", true, true), ("_law_row", true, true)]
abbrev gl_law_is_row : List Str := ["isinstance", "AtLeast", "AtMost", "_law_is_integer"]
theorem sc_law_is_row : FnScope (nm_law_is_row.map (·.1)) ["_law_actual", "_law_row"] (defScope s_law_is_row) := ⟨rfl, rfl, rfl, by decide +kernel, rfl, by decide +kernel, by decide +kernel⟩
theorem nb_law_is_row : nmB true (defScope s_law_is_row) nm_law_is_row = true := by decide +kernel
theorem gb_law_is_row : glB (defScope s_law_is_row) gl_law_is_row = true := by decide +kernel
abbrev s_law_look : Stmt := top 9
abbrev nm_law_look : Nms := [("_law_condition", true, true), ("_law_row", true, true), ("_law_key", true, true), ("_law_sign", true, true)]
abbrev gl_law_look : List Str := ["_law_is_row", "isinstance", "tuple", "len", "_law_is_integer", "bool", "str"]
theorem sc_law_look : FnScope (nm_law_look.map (·.1)) ["_law_condition", "_law_row"] (defScope s_law_look) := ⟨rfl, rfl, rfl, by decide +kernel, rfl, by decide +kernel, by decide +kernel⟩
theorem nb_law_look : nmB true (defScope s_law_look) nm_law_look = true := by decide +kernel
theorem gb_law_look : glB (defScope s_law_look) gl_law_look = true := by decide +kernel
abbrev s_law_opposite : Stmt := top 10
abbrev nm_law_opposite : Nms := [("_law_row", true, true)]
abbrev gl_law_opposite : List Str := []
theorem sc_law_opposite : FnScope (nm_law_opposite.map (·.1)) ["_law_row"] (defScope s_law_opposite) := ⟨rfl, rfl, rfl, by decide +kernel, rfl, by decide +kernel, by decide +kernel⟩
theorem nb_law_opposite : nmB true (defScope s_law_opposite) nm_law_opposite = true := by decide +kernel
theorem gb_law_opposite : glB (defScope s_law_opposite) gl_law_opposite = true := by decide +kernel
abbrev s_law_far : Stmt := top 11
abbrev nm_law_far : Nms := [("_law_script", true, true), ("_law_stock", true, true), ("_law_far_here", true, true), ("_law_k", true, true)]
abbrev gl_law_far : List Str := ["_law_take", "range"]
theorem sc_law_far : FnScope (nm_law_far.map (·.1)) ["_law_script", "_law_stock"] (defScope s_law_far) := ⟨rfl, rfl, rfl, by decide +kernel, rfl, by decide +kernel, by decide +kernel⟩
theorem nb_law_far : nmB true (defScope s_law_far) nm_law_far = true := by decide +kernel
theorem gb_law_far : glB (defScope s_law_far) gl_law_far = true := by decide +kernel
abbrev s_law : Stmt := top 12
abbrev nm_law : Nms := [("_law_script", true, true), ("_law_stock", true, true), ("_law_same", true, true), ("_law_dial", true, true), ("_law_number_here", true, true), ("_law_rows", true, true), ("_law_far_here", true, true), ("_law_row", true, true), ("_law_condition", true, true), ("_law_opposite_here", true, true), ("_law_other", true, true)]
abbrev gl_law : List Str := ["_law_take", "_law_number", "_law_far", "AtLeast", "AtMost", "_law_object", "_law_look", "_law_opposite"]
theorem sc_law : FnScope (nm_law.map (·.1)) ["_law_script"] (defScope s_law) := ⟨rfl, rfl, rfl, by decide +kernel, rfl, by decide +kernel, by decide +kernel⟩
theorem nb_law : nmB true (defScope s_law) nm_law = true := by decide +kernel
theorem gb_law : glB (defScope s_law) gl_law = true := by decide +kernel
structure Fx (c : Cn) : Prop where
  m_int : c.mg "int" = none
  m_len : c.mg "len" = none
  m_isinstance : c.mg "isinstance" = none
  m_bool : c.mg "bool" = none
  m_tuple : c.mg "tuple" = none
  m_str : c.mg "str" = none
  m_range : c.mg "range" = none
  g_AtLeast : c.mg "AtLeast" = some (.ref (ad c "AtLeast"))
  g_AtMost : c.mg "AtMost" = some (.ref (ad c "AtMost"))
  is_AtLeast : IsC c.K (ad c "AtLeast")
  is_AtMost : IsC c.K (ad c "AtMost")
  n_AtLeast_dial : NoAttr c.K (ad c "AtLeast") "dial"
  n_AtLeast_number : NoAttr c.K (ad c "AtLeast") "number"
  n_AtMost_dial : NoAttr c.K (ad c "AtMost") "dial"
  n_AtMost_number : NoAttr c.K (ad c "AtMost") "number"
  k_AtLeast_AtLeast : PySem.W.kitOne c.K (.ref (ad c "AtLeast")) (.ref (ad c "AtLeast")) = some true
  k_AtLeast_AtMost : PySem.W.kitOne c.K (.ref (ad c "AtLeast")) (.ref (ad c "AtMost")) = some false
  k_AtMost_AtLeast : PySem.W.kitOne c.K (.ref (ad c "AtMost")) (.ref (ad c "AtLeast")) = some false
  k_AtMost_AtMost : PySem.W.kitOne c.K (.ref (ad c "AtMost")) (.ref (ad c "AtMost")) = some true
  k_t_NoneType_AtLeast : PySem.W.kitOne c.K (.type "NoneType") (.ref (ad c "AtLeast")) = some false
  k_t_NoneType_AtMost : PySem.W.kitOne c.K (.type "NoneType") (.ref (ad c "AtMost")) = some false
  k_t_bool_AtLeast : PySem.W.kitOne c.K (.type "bool") (.ref (ad c "AtLeast")) = some false
  k_t_bool_AtMost : PySem.W.kitOne c.K (.type "bool") (.ref (ad c "AtMost")) = some false
  k_t_int_AtLeast : PySem.W.kitOne c.K (.type "int") (.ref (ad c "AtLeast")) = some false
  k_t_int_AtMost : PySem.W.kitOne c.K (.type "int") (.ref (ad c "AtMost")) = some false
  k_t_str_AtLeast : PySem.W.kitOne c.K (.type "str") (.ref (ad c "AtLeast")) = some false
  k_t_str_AtMost : PySem.W.kitOne c.K (.type "str") (.ref (ad c "AtMost")) = some false
  k_t_tuple_AtLeast : PySem.W.kitOne c.K (.type "tuple") (.ref (ad c "AtLeast")) = some false
  k_t_tuple_AtMost : PySem.W.kitOne c.K (.type "tuple") (.ref (ad c "AtMost")) = some false
  k_t_list_AtLeast : PySem.W.kitOne c.K (.type "list") (.ref (ad c "AtLeast")) = some false
  k_t_list_AtMost : PySem.W.kitOne c.K (.type "list") (.ref (ad c "AtMost")) = some false
  k_t_dict_AtLeast : PySem.W.kitOne c.K (.type "dict") (.ref (ad c "AtLeast")) = some false
  k_t_dict_AtMost : PySem.W.kitOne c.K (.type "dict") (.ref (ad c "AtMost")) = some false
  nf_AtLeast_AtMost : PySem.W.notFirst c.K (ad c "AtLeast") (.ref (ad c "AtMost")) = true
  nf_AtMost_AtLeast : PySem.W.notFirst c.K (ad c "AtMost") (.ref (ad c "AtLeast")) = true
  nf_AtLeast_tuple : PySem.W.notFirst c.K (ad c "AtLeast") (.type "tuple") = true
  nf_AtLeast_str : PySem.W.notFirst c.K (ad c "AtLeast") (.type "str") = true
  nf_AtLeast_NoneType : PySem.W.notFirst c.K (ad c "AtLeast") (.type "NoneType") = true
  nf_AtMost_tuple : PySem.W.notFirst c.K (ad c "AtMost") (.type "tuple") = true
  nf_AtMost_str : PySem.W.notFirst c.K (ad c "AtMost") (.type "str") = true
  nf_AtMost_NoneType : PySem.W.notFirst c.K (ad c "AtMost") (.type "NoneType") = true
  nd : PySem.W.nsIn c.K cStatics "sys.int_max_str_digits" = some none
  rd_AtLeast : PySem.W.readsIn c.K (ad c "AtLeast") (.type "type") = true
  rd_AtMost : PySem.W.readsIn c.K (ad c "AtMost") (.type "type") = true
  ga_AtLeast : PySem.W.specialIn c.K (.ref (ad c "AtLeast")) "__getattribute__" = some (some (.builtin "type.__getattribute__"))
  ga_AtMost : PySem.W.specialIn c.K (.ref (ad c "AtMost")) "__getattribute__" = some (some (.builtin "type.__getattribute__"))
  cv_AtLeast : cvB (PySem.W.findCls c.K (.ref (ad c "AtLeast")) (.type "type") "is_least") true = true
  cv_AtMost : cvB (PySem.W.findCls c.K (.ref (ad c "AtMost")) (.type "type") "is_least") false = true
  con_AtLeast_is_least : ∃ u, Con c.K (ad c "AtLeast") "is_least" (.bl true) u
  con_AtMost_is_least : ∃ u, Con c.K (ad c "AtMost") "is_least" (.bl false) u
def dd (x : Str) (st : Stmt) : He.DefD := ⟨(x, none), x, x, defArgs st, defBody st, defScope st, [], []⟩
def dm (C m q : Str) (st : Stmt) : He.DefD := ⟨(C, some m), m, q, defArgs st, defBody st, defScope st, [], []⟩
def fn : List He.DefD := [dd "_law_take" s_law_take, dd "_law_is_integer" s_law_is_integer, dd "_law_number" s_law_number, dd "_law_object" s_law_object, dd "_law_is_row" s_law_is_row, dd "_law_look" s_law_look, dd "_law_opposite" s_law_opposite, dd "_law_far" s_law_far, dd "law" s_law, dm "AtLeast" "__init__" "AtLeast.__init__" s_AtLeast_init, dm "AtMost" "__init__" "AtMost.__init__" s_AtMost_init, dm "AtLeast" "__invert__" "AtLeast.__invert__" s_AtLeast_invert, dm "AtMost" "__invert__" "AtMost.__invert__" s_AtMost_invert, dm "AtLeast" "key" "AtLeast.key" s_AtLeast_key, dm "AtMost" "key" "AtMost.key" s_AtMost_key, dm "AtLeast" "__eq__" "AtLeast.__eq__" s_AtLeast_eq, dm "AtMost" "__eq__" "AtMost.__eq__" s_AtMost_eq, dm "AtLeast" "text" "AtLeast.text" s_AtLeast_text, dm "AtMost" "text" "AtMost.text" s_AtMost_text]
def fa : List He.Fa := [.glo "_law_take", .glo "_law_is_integer", .glo "_law_number", .glo "_law_object", .glo "_law_is_row", .glo "_law_look", .glo "_law_opposite", .glo "_law_far", .glo "law", .glo "AtLeast", .glo "AtMost", .cls "AtLeast", .cls "AtMost", .mkr "AtLeast", .mkr "AtMost", .meth "AtLeast" "__invert__", .meth "AtMost" "__invert__", .meth "AtLeast" "key", .meth "AtMost" "key", .meth "AtLeast" "__eq__", .meth "AtMost" "__eq__", .meth "AtLeast" "text", .meth "AtMost" "text", .free "int", .free "len", .free "isinstance", .free "bool", .free "tuple", .free "str", .free "range", .noat "AtLeast" "dial", .noat "AtLeast" "number", .noat "AtMost" "dial", .noat "AtMost" "number"]
def exs (K : PySem.W.Frag) : List Bool := [isCB K (He.ga K "AtLeast"), isCB K (He.ga K "AtMost"), decide (PySem.W.kitOne K (.ref (He.ga K "AtLeast")) (.ref (He.ga K "AtLeast")) = some true), decide (PySem.W.kitOne K (.ref (He.ga K "AtLeast")) (.ref (He.ga K "AtMost")) = some false), decide (PySem.W.kitOne K (.ref (He.ga K "AtMost")) (.ref (He.ga K "AtLeast")) = some false), decide (PySem.W.kitOne K (.ref (He.ga K "AtMost")) (.ref (He.ga K "AtMost")) = some true), decide (PySem.W.kitOne K (.type "NoneType") (.ref (He.ga K "AtLeast")) = some false), decide (PySem.W.kitOne K (.type "NoneType") (.ref (He.ga K "AtMost")) = some false), decide (PySem.W.kitOne K (.type "bool") (.ref (He.ga K "AtLeast")) = some false), decide (PySem.W.kitOne K (.type "bool") (.ref (He.ga K "AtMost")) = some false), decide (PySem.W.kitOne K (.type "int") (.ref (He.ga K "AtLeast")) = some false), decide (PySem.W.kitOne K (.type "int") (.ref (He.ga K "AtMost")) = some false), decide (PySem.W.kitOne K (.type "str") (.ref (He.ga K "AtLeast")) = some false), decide (PySem.W.kitOne K (.type "str") (.ref (He.ga K "AtMost")) = some false), decide (PySem.W.kitOne K (.type "tuple") (.ref (He.ga K "AtLeast")) = some false), decide (PySem.W.kitOne K (.type "tuple") (.ref (He.ga K "AtMost")) = some false), decide (PySem.W.kitOne K (.type "list") (.ref (He.ga K "AtLeast")) = some false), decide (PySem.W.kitOne K (.type "list") (.ref (He.ga K "AtMost")) = some false), decide (PySem.W.kitOne K (.type "dict") (.ref (He.ga K "AtLeast")) = some false), decide (PySem.W.kitOne K (.type "dict") (.ref (He.ga K "AtMost")) = some false), conB K (He.ga K "AtLeast") "is_least" true, conB K (He.ga K "AtMost") "is_least" false, PySem.W.notFirst K (He.ga K "AtLeast") (.ref (He.ga K "AtMost")), PySem.W.notFirst K (He.ga K "AtMost") (.ref (He.ga K "AtLeast")), PySem.W.notFirst K (He.ga K "AtLeast") (.type "tuple"), PySem.W.notFirst K (He.ga K "AtLeast") (.type "str"), PySem.W.notFirst K (He.ga K "AtLeast") (.type "NoneType"), PySem.W.notFirst K (He.ga K "AtMost") (.type "tuple"), PySem.W.notFirst K (He.ga K "AtMost") (.type "str"), PySem.W.notFirst K (He.ga K "AtMost") (.type "NoneType"), decide (PySem.W.nsIn K cStatics "sys.int_max_str_digits" = some none), decide (PySem.W.readsIn K (He.ga K "AtLeast") (.type "type") = true), decide (PySem.W.readsIn K (He.ga K "AtMost") (.type "type") = true), decide (PySem.W.specialIn K (.ref (He.ga K "AtLeast")) "__getattribute__" = some (some (.builtin "type.__getattribute__"))), decide (PySem.W.specialIn K (.ref (He.ga K "AtMost")) "__getattribute__" = some (some (.builtin "type.__getattribute__"))), decide (cvB (PySem.W.findCls K (.ref (He.ga K "AtLeast")) (.type "type") "is_least") true = true), decide (cvB (PySem.W.findCls K (.ref (He.ga K "AtMost")) (.type "type") "is_least") false = true)]
def ex (K : PySem.W.Frag) : Bool := (exs K).all id
theorem ex_at {K : PySem.W.Frag} (h : ex K = true) (i : Nat) {b : Bool} (e : (exs K)[i]? = some b) : b = true := List.all_eq_true.mp h b (List.mem_of_getElem? e)
abbrev R : PySem.W.OpenRow := PySem.W.OpenLaw.row PySem.Challenge.rw_threevotes_k06_conditions_and_opposites
def fc : List DefC := []
abbrev flE : Str := PySem.Challenge.pw_threevotes_k06_conditions_and_opposites.main.file
abbrev hk : PySem.W.Hook := hookY 4 fa fn ex flE fc
def ob (s : PySem.W.SharedT) : He.AlX × List FnC := obsY 4 fa fn ex flE fc (HandSHeadRun.getT s)
theorem ob_eq (s : PySem.W.SharedT) : ob s = hk.obs s.abs := obsY_eq (HandSHeadRun.getT_eq s)
def loose : List Str := (["AtLeast", "AtMost", "_law_take", "_law_number", "_law_is_integer", "_law_object", "_law_is_row", "_law_look", "_law_opposite", "_law_far"] : List Str)
set_option maxHeartbeats 0 in
theorem run (w : World) : HandSHeadRun.RunEq R (PySem.W.view R.prog [12]) hk ob 12000 loose w := by
  intro os
  kernel_rfl
end TV

namespace TV
open PySem PySem.Spec PyProof.Rows L2
local macro_rules | `(tactic| walk_at "lk") => `(tactic| with_reducible first | exact LookV.here | (apply LookV.there; walk_at "lk"))
local macro_rules | `(tactic| walk_at "put") => `(tactic| with_reducible first | exact PutV.here | (apply PutV.there; walk_at "put"))
local macro_rules | `(tactic| walk_at "st") => `(tactic| with_reducible first | exact SetS.here | (apply SetS.there; walk_at "st"))
local macro_rules | `(tactic| walk_at "in") => `(tactic| with_reducible first | exact InL.here | (refine InL.there ?_; walk_at "in"))
local macro_rules | `(tactic| walk_at "nn") => `(tactic| with_reducible first | exact InN.here | (apply InN.there; walk_at "nn"))
local macro_rules | `(tactic| walk_at "nb") => `(tactic| with_reducible first | exact InB.here | (apply InB.there; walk_at "nb"))
local macro_rules | `(tactic| walk_at "sw") => `(tactic| (intro env h; obtain ⟨_⟩ := env; with_unfolding_all (cases h; rfl)))
local macro_rules | `(tactic| walk_at "pus") => `(tactic| with_reducible first | exact Pus.nil | (apply Pus.cons; walk_at "pus"))
local macro_rules | `(tactic| walk_at "a0") => `(tactic| with_reducible first | exact Args0.nil | (apply Args0.pu; walk_at "a0"))
local macro_rules | `(tactic| walk_at "a1") => `(tactic| first | (apply Args1.hs (by rfl); walk_at "a0") | (apply Args1.ha (by rfl); walk_at "a0") | (apply Args1.pu; walk_at "a1"))
local macro_rules | `(tactic| walk_at "boot") => `(tactic| first | exact boot_len | exact boot_int | exact boot_tuple | exact boot_list | exact boot_sorted | exact boot_isinstance | exact boot_bool | exact boot_sum | with_unfolding_all rfl)
local macro_rules | `(tactic| walk_at "weN") => `(tactic| with_reducible first
  | (refine v_call (by assumption) (by assumption) (by with_unfolding_all decide) (by walk_at "in") (fun _ => by with_unfolding_all rfl) (fun _ => by with_unfolding_all rfl) ?_)
  | (refine v_call1 (by assumption) (by assumption) (by assumption) (by with_unfolding_all decide) (by walk_at "in") (fun _ => by with_unfolding_all rfl) (fun _ => by with_unfolding_all rfl) ?_)
  | (refine we_of_ins (v_make (by assumption) (by assumption) (by with_unfolding_all decide) (by walk_at "in") (fun _ => by with_unfolding_all rfl) (fun _ => by with_unfolding_all rfl) ?_))
  | ((refine q_len ?_); (refine v_lenO (by assumption) (by walk_at "lk") (by assumption) (by walk_at "in") (fun _ => by with_unfolding_all rfl) (fun _ => by with_unfolding_all rfl) ?_))
  | ((refine q_list ?_); first
     | (refine v_lrange1 (by assumption) (by assumption) (by walk_at "in") (by assumption) (by walk_at "in") (fun _ => by with_unfolding_all rfl) (fun _ => by with_unfolding_all rfl) ?_)
     | (refine v_lrange2 (by assumption) (by assumption) (by walk_at "in") (by assumption) (by walk_at "in") (fun _ => by with_unfolding_all rfl) (fun _ => by with_unfolding_all rfl) (fun _ => by with_unfolding_all rfl) (fun _ => by with_unfolding_all rfl) ?_))
  | (refine v_callB (by assumption) (by walk_at "boot") (by assumption) (by walk_at "in") (by decide) (by with_unfolding_all rfl) (fun _ => by with_unfolding_all rfl) (fun _ => by with_unfolding_all rfl) ?_)
  | (refine v_callTy (by assumption) (by walk_at "boot") (by assumption) (by walk_at "in") (by decide) (by with_unfolding_all rfl) (fun _ => by with_unfolding_all rfl) (fun _ => by with_unfolding_all rfl) ?_))
local macro_rules | `(tactic| walk_at "weA") => `(tactic| with_reducible first
  | ((refine q_app ?_); (refine w_append (by assumption) (by walk_at "lk") (fun _ => by with_unfolding_all rfl) (fun _ => by with_unfolding_all rfl) (by with_unfolding_all rfl) (fun _ => by with_unfolding_all rfl) (fun _ => by with_unfolding_all rfl) ?_ ?_))
  | ((refine q_bits ?_); (refine v_bits (fun _ => by with_unfolding_all rfl) (by with_unfolding_all rfl) ?_))
  | (refine v_methE (by assumption) (by assumption) (by assumption) (by with_unfolding_all decide) (fun _ => by with_unfolding_all rfl) (fun _ => by with_unfolding_all rfl) (fun _ => by with_unfolding_all rfl) ?_)
  | (refine v_meth0E (by assumption) (by assumption) (by assumption) (by with_unfolding_all decide) (fun _ => by with_unfolding_all rfl) ?_))
local macro_rules | `(tactic| walk_at "weF") => `(tactic| with_reducible first
  | ((refine q_attrN ?_); first
    | (refine v_fldA (by assumption) (by walk_at "lk") (by with_unfolding_all rfl) (fun _ => by with_unfolding_all rfl) (by assumption) (by assumption) (by with_unfolding_all rfl) ?_)
    | (refine v_exf (by assumption) (by assumption) (by walk_at "lk") (by assumption) (by assumption) (fun _ => by with_unfolding_all rfl) (by with_unfolding_all rfl) ?_))
  | ((refine q_attrL ?_); (refine v_atC (f := "is_least") (by assumption) (fun _ => by with_unfolding_all rfl) ?_))
  | (refine v_at (by assumption) (fun _ => by with_unfolding_all rfl) ?_))
local macro_rules | `(tactic| walk_at "weS") => `(tactic| with_reducible first
  | refine we_slTo ?_ | refine we_slFrom ?_ | refine we_sl ?_
  | ((refine q_subN ?_); first
    | (refine v_ixA (by assumption) (fun _ _ => by with_unfolding_all rfl) (by walk_at "lk") (by with_unfolding_all rfl) ?_)
    | (refine v_ixO (by assumption) (fun _ _ => by with_unfolding_all rfl) (by walk_at "lk") ?_))
  | (refine we_ix (fun _ _ => by with_unfolding_all rfl) ?_))
local macro_rules | `(tactic| walk_at "we") => `(tactic| with_reducible first
  | ((refine q_name ?_); first | (refine v_var (by assumption) (by walk_at "lk") ?_) | (refine v_gint (by assumption) (by assumption) (by walk_at "in") (by with_unfolding_all rfl) ?_) | (refine v_gref (by assumption) (by assumption) (by walk_at "in") (by with_unfolding_all rfl) ?_) | (refine v_bty (by assumption) (by walk_at "boot") (by assumption) (by walk_at "in") (by decide) (by with_unfolding_all rfl) ?_) | (refine w_frz (by assumption) (by walk_at "lk") (by walk_at "st") ?_))
  | refine we_int ?_ | refine we_bl ?_ | refine we_non ?_ | refine we_str ?_
  | ((refine q_callN ?_); walk_at "weN")
  | ((refine q_callA ?_); walk_at "weA")
  | refine we_bin ?_ | ((refine q_cmp ?_); (refine we_cmp (by with_unfolding_all rfl) ?_)) | ((refine q_cmps ?_); (refine we_chain (by with_unfolding_all rfl) ?_))
  | ((refine q_attr ?_); walk_at "weF")
  | ((refine q_sub ?_); walk_at "weS")
  | refine v_tup ?_ | refine v_lst ?_
  | refine we_not ?_ | refine we_one ?_ | refine we_and ?_ | refine we_or ?_ | refine we_ifexp ?_
  | refine we_un (op := UnaryOp.USub) ?_)
local macro_rules | `(tactic| walk_at "fok") => `(tactic| with_reducible exact fld_of (by assumption) (by assumption) (by with_unfolding_all rfl))
local macro_rules | `(tactic| walk_at "cok") => `(tactic| fail)
local macro_rules | `(tactic| walk_at "mono") => `(tactic| (rintro bs Po Po' Er Er' h hp he; (repeat (obtain ⟨x, h⟩ := h; refine ⟨x, ?_⟩)); intros; apply hp; apply h <;> assumption))
local macro_rules | `(tactic| walk_at "lel") => `(tactic| first | with_reducible exact LeL.nil | ((with_reducible refine LeL.no ?_); walk_at "lel") | (refine LeL.same ?_; walk_at "lel"))
local macro_rules | `(tactic| walk_at "Le") => `(tactic| first | exact Le.rfl | exact ⟨by walk_at "lel", rfl⟩)
local macro_rules | `(tactic| walk_at "tr") => `(tactic| ((repeat apply Exists.intro); refine ⟨rfl, ?_⟩))
local macro_rules | `(tactic| walk_at "wt") => `(tactic| with_reducible first
  | ((refine q_wcmp ?_); (refine wt_cmp (by with_unfolding_all rfl) ?_)) | ((refine q_wcmps ?_); (refine wt_of_chain (by with_unfolding_all rfl) ?_)) | refine wt_not ?_
  | (refine wt_of_ww ?_; first | refine ww_and ?_ | refine ww_or ?_)
  | (refine wt_val (fun _ _ => by with_unfolding_all rfl) ?_))
local macro_rules | `(tactic| walk_at "ww") => `(tactic| with_reducible first | refine ww_and ?_ | refine ww_or ?_ | refine ww_and1 ?_ | refine ww_or1 ?_)
local macro_rules | `(tactic| walk_at "ok") => `(tactic| first | exact ok_tup _ | exact ok_lst _ | exact ok_tupS (by first | rfl | (simp [smp]; done) | (simp [smp]; decide +kernel)) | exact ok_lstS (by first | rfl | (simp [smp]; done) | (simp [smp]; decide +kernel)) | rfl)
local macro_rules | `(tactic| walk_at "op") => `(tactic| with_reducible first
  | ((refine q_opC ?_); first
    | refine o_lt ?_ | refine o_le ?_ | refine o_gt ?_ | refine o_ge ?_ | refine o_eqI ?_ | refine o_neI ?_ | refine o_eqSY ?_ | (refine o_eqSN (by decide +kernel) ?_) | refine o_eqS ?_ | refine o_neSY ?_ | (refine o_neSN (by decide +kernel) ?_) | refine o_neS ?_ | refine o_isNN ?_ | refine o_notNN ?_ | refine o_eqB ?_ | refine o_neB ?_
    | (refine o_isNF (by with_unfolding_all rfl) ?_) | (refine o_notNF (by with_unfolding_all rfl) ?_) | refine o_isN ?_ | refine o_notN ?_
    | ((refine q_neS ?_); (refine o_neSame (by walk_at "ok") ?_)) | ((refine q_eqS ?_); (refine o_eqSame (by walk_at "ok") ?_)))
  | ((refine q_opB ?_); first
    | refine o_add ?_ | refine o_sub ?_ | refine o_and ?_ | refine o_or ?_ | refine o_xor ?_
    | (refine o_catL (by first | (simp; done) | (simp [rgD_len]; omega) | omega) ?_) | (refine o_catT (by first | assumption | (simp; done)) (by first | (simp; done) | (simp; omega) | omega) ?_)
    | (refine o_shl (And.intro (by omega) (And.intro (by omega) (by decide))) ?_) | (refine o_shr (by omega) ?_)
    | (refine o_mod (by first | decide | omega) ?_) | (refine o_fdiv (by first | decide | omega) ?_) | (refine o_pow (by decide) ?_) | (refine o_mul (by unfold CMul; first | decide | omega | exact Or.inr (by decide) | exact Or.inl (by decide)) ?_))
  | refine o_iadd ?_ | refine o_isub ?_ | refine o_iand ?_ | refine o_ior ?_ | refine o_ixor ?_ | (refine o_mul (by unfold CMul; first | decide | omega | exact Or.inr (by decide) | exact Or.inl (by decide)) ?_))
local macro_rules | `(tactic| walk_at "ws") => `(tactic| with_reducible first
  | refine v_ret ?_ | refine v_retN ?_ | refine v_if ?_ | refine v_pass ?_ | refine v_break ?_ | refine v_cont ?_
  | ((refine q_par ?_); (refine v_par (by assumption) (by walk_at "nb") (by walk_at "nb") (by decide) (by with_unfolding_all rfl) (by with_unfolding_all rfl) (by walk_at "sw") (fun _ => by with_unfolding_all rfl) ?_))
  | ((refine q_asgD ?_); (refine w_asgO (by assumption) (by walk_at "nn") (fun _ => by with_unfolding_all rfl) (v_disp ?_)))
  | ((refine q_asg ?_); (refine w_asg (by assumption) (by walk_at "nn") (fun _ => by with_unfolding_all rfl) ?_))
  | ((refine q_aug ?_); (refine w_aug (by assumption) (by walk_at "lk") (by walk_at "nn") ?_))
  | ((refine q_asgS ?_); first
    | (refine v_setA (by assumption) (by walk_at "lk") (fun _ _ => by with_unfolding_all rfl) (fun _ => by with_unfolding_all rfl) (fun _ => by with_unfolding_all rfl) (fun _ => by with_unfolding_all rfl) ?_)
    | (refine v_setO (by assumption) (by walk_at "lk") (fun _ _ => by with_unfolding_all rfl) (fun _ => by with_unfolding_all rfl) (fun _ => by with_unfolding_all rfl) (fun _ => by with_unfolding_all rfl) ?_))
  | ((refine q_expr ?_); (refine v_expr (fun _ => by with_unfolding_all rfl) ?_))
  | ((refine q_raise ?_); first
    | (refine v_raise0 (by assumption) (by assumption) (by walk_at "in") ?_)
    | (refine v_raise (by assumption) (by assumption) (by decide) (by walk_at "in") (fun _ => by with_unfolding_all rfl) (fun _ => by with_unfolding_all rfl) ?_)))
local macro_rules | `(tactic| walk_at "ex") => `(tactic| first
  | ((with_reducible show ∃ o, [_] = [o] ∧ _); with_reducible refine one_go ?_)
  | ((with_reducible show ∃ k, D.bl _ = D.bl k ∧ _); refine ⟨_, rfl, ?_⟩)
  | ((with_reducible show ∃ L d n, cond _ _ _ _ = cond _ L d n ∧ _); refine ⟨_, _, _, rfl, ?_⟩)
  | ((with_reducible show ∃ v, FldOk _ _ _ v ∧ _); refine ⟨_, by walk_at "fok", ?_⟩)
  | ((with_reducible show ∃ v, ConOk _ _ _ v ∧ _); refine ⟨_, by walk_at "cok", ?_⟩)
  | ((with_reducible show ∃ C fs, Ob.ins _ _ = Ob.ins C fs ∧ _); refine ⟨_, _, rfl, ?_⟩)
  | ((with_reducible show ∃ fs, D.ins _ _ = D.ins _ fs ∧ List.lookup _ fs = _ ∧ _); refine ⟨_, rfl, by with_unfolding_all rfl, ?_⟩)
  | ((with_reducible show ∃ i, D.int _ = D.int i ∧ _); refine ⟨_, rfl, ?_⟩)
  | ((with_reducible show ∃ k, tru _ = some k ∧ _); refine ⟨_, by with_unfolding_all rfl, ?_⟩)
  | ((with_reducible show ∃ sl, SetS _ _ _ sl ∧ _); refine ⟨_, by walk_at "st", ?_⟩)
  | ((with_reducible show ∃ sl, PutV _ _ _ _ _ sl ∧ _); refine ⟨_, by walk_at "put", ?_⟩)
  | ((with_reducible show ∃ d1 d2 sl sl', _ = _ ∧ PutV _ _ _ _ _ _ ∧ PutV _ _ _ _ _ _ ∧ _); refine ⟨_, _, _, _, rfl, by walk_at "put", by walk_at "put", ?_⟩)
  | ((with_reducible show ∃ ds, Pus _ ds ∧ _ ∧ _); refine ⟨_, by walk_at "pus", by simp, ?_⟩)
  | ((with_reducible show ∃ bs, Args0 _ bs ∧ _ ∧ _); refine ⟨_, by walk_at "a0", by rfl, ?_⟩)
  | ((with_reducible show ∃ bs hd, Args1 _ _ bs hd ∧ _ ∧ _); refine ⟨_, _, by walk_at "a1", by rfl, ?_⟩)
  | ((with_reducible show ∃ G2, PutG _ _ _ G2 ∧ _); first | refine ⟨_, putG_hs (by walk_at "st"), ?_⟩ | refine ⟨_, putG_ha0, ?_⟩ | refine ⟨_, putG_ha1, ?_⟩ | refine ⟨_, PutG.ha, ?_⟩)
  | ((with_reducible show ∃ n y, _ = _ ∧ atI _ _ = _ ∧ _); refine ⟨_, _, rfl, by rfl, ?_⟩)
  | ((with_reducible show ∃ xs0, LookV _ _ _ _ _ ∧ _); refine ⟨_, by walk_at "lk", ?_⟩)
  | ((with_reducible show ∃ n xs m, _ = _ ∧ _ = _ ∧ ixN _ _ = _ ∧ _); refine ⟨_, _, _, rfl, by rfl, by rfl, ?_⟩)
  | ((with_reducible show ∃ n m, _ = _ ∧ ixN _ _ = _ ∧ _); refine ⟨_, _, rfl, by rfl, ?_⟩))
local macro_rules | `(tactic| walk_at "s1") => `(tactic| first
  | ((with_reducible refine q_we ?_); walk_at "we")
  | ((with_reducible refine q_wap ?_); first | with_reducible refine v_nil ?_ | with_reducible refine v_cons (fun _ => by with_unfolding_all rfl) ?_)
  | ((with_reducible refine q_wa ?_); with_reducible first | refine v_anil ?_ | ((refine q_waN ?_); first | (refine v_ha (by assumption) (by walk_at "lk") (by with_unfolding_all rfl) (fun _ => by with_unfolding_all rfl) ?_) | (refine v_hs (by assumption) (by walk_at "lk") (fun _ => by with_unfolding_all rfl) ?_)) | (refine v_acons (fun _ => by with_unfolding_all rfl) ?_))
  | ((with_reducible refine q_op ?_); walk_at "op")
  | ((with_reducible refine q_un ?_); with_reducible refine u_neg ?_)
  | ((with_reducible refine q_wt ?_); walk_at "wt")
  | ((with_reducible refine q_ww ?_); walk_at "ww")
  | ((with_reducible refine q_xs ?_); walk_at "ws")
  | ((with_reducible refine q_xss ?_); first | with_reducible refine v_snil ?_ | with_reducible refine v_scons ?_)
  | ((with_reducible refine q_cb ?_); with_reducible first | refine c_int ?_ | (refine c_sum (by assumption) ?_) | refine c_intB ?_ | (refine c_len (by first | exact SeqD.lst _ | exact SeqD.tup _ | assumption) ?_) | (refine c_tuple (by first | exact SeqD.lst _ | exact SeqD.tup _ | assumption) ?_) | (refine c_list (by first | exact SeqD.lst _ | exact SeqD.tup _ | assumption) ?_) | (refine c_isTy (by with_unfolding_all rfl) (by with_unfolding_all rfl) ?_))
  | ((with_reducible refine q_ix ?_); first | (refine x_lst (by rfl) ?_) | (refine x_tup (by rfl) ?_))
  | ((with_reducible refine q_putN ?_); (with_reducible refine putN_mk (by walk_at "st") ?_))
  | ((with_reducible refine q_appN ?_); (with_reducible refine appN_mk (by walk_at "lk") (by walk_at "st") ?_))
  | ((with_reducible refine q_ex ?_); walk_at "ex")
  | ((with_reducible show _ ≤ 1000 ∧ _); refine ⟨by simp, ?_⟩)
  | ((with_reducible show LookV _ _ _ _ _ ∧ _); refine ⟨by walk_at "lk", ?_⟩)
  | ((with_reducible show _ = _ ∧ _); refine ⟨rfl, ?_⟩)
  | ((with_reducible show (if _ = true then _ else _)); first | with_reducible refine yes_go ?_ | with_reducible refine no_go ?_ | with_reducible refine not_go ?_ | refine ite_dec (fun hb => ?_) (fun hb => ?_) | refine ite_ndec (fun hb => ?_) (fun hb => ?_) | refine ite_go (fun hb => ?_) (fun hb => ?_)))
local macro_rules | `(tactic| walk_at "go") => `(tactic| repeat' walk_at "s1")
local macro_rules | `(tactic| walk_at "pr") => `(tactic| ((with_reducible show T_take _ _ _ _); refine ⟨_, _, _, rfl, by first | decide | omega, fun _ _ _ _ => ?_⟩))
local macro_rules | `(tactic| walk_at "pr") => `(tactic| ((with_reducible show T_number _ _ _ _); refine ⟨_, _, rfl, fun _ _ => ?_⟩))
local macro_rules | `(tactic| walk_at "pr") => `(tactic| ((with_reducible show T_menu _ _ _ _); refine ⟨_, _, _, rfl, by first | decide | omega, fun _ _ _ => ?_⟩))
local macro_rules | `(tactic| walk_at "pr") => `(tactic| ((with_reducible show T_settings _ _ _ _); refine ⟨_, _, _, _, _, rfl, by first | decide | omega, by first | decide | omega, by first | decide | omega, fun _ _ _ _ => ?_⟩))
local macro_rules | `(tactic| walk_at "gt") => `(tactic| repeat' (first | walk_at "s1" | walk_at "pr"))
local macro_rules | `(tactic| walk_at "g1") => `(tactic| ((fail_if_success with_reducible refine q_xss ?_); first | walk_at "s1" | walk_at "pr"))
local macro_rules | `(tactic| walk_at "gs") => `(tactic| repeat' walk_at "g1")
local macro_rules | `(tactic| walk_at "st1") => `(tactic| ((first | refine v_scons ?_ | refine v_snil (v_scons ?_)); walk_at "gs"))
local macro_rules | `(tactic| walk_at "hid") => `(tactic| with_reducible first | exact HidS.nil | (apply HidS.pu; walk_at "hid") | (apply HidS.no; walk_at "hid") | (apply HidS.ow; walk_at "hid") | (apply HidS.ar; walk_at "hid"))
theorem M_law_take {c : Cn} : Mono (T_take c) := by walk_at "mono"
theorem b_law_take {c : Cn} (fx : Fx c)  : Body c nm_law_take gl_law_take s_law_take 0 (T_take c) := by
  intro F B args Po Er I ht t
  have m_int := fx.m_int
  have m_len := fx.m_len
  have cl_AtLeast := fx.is_AtLeast.cl
  have cl_AtMost := fx.is_AtMost.cl
  have n_AtLeast_dial := fx.n_AtLeast_dial
  have n_AtLeast_number := fx.n_AtLeast_number
  have n_AtMost_dial := fx.n_AtMost_dial
  have n_AtMost_number := fx.n_AtMost_number
  obtain ⟨ns, ⟨x, y, z, hx⟩, s, rfl, hs, k⟩ := t
  conv in defBody _ => whnf
  show XSs F B _ ⟨[.pu (iL ns), .ar 0, .pu (.int s), .no, .no, .no], [.lst [.int x, .int y, .int z]]⟩ _ _
  walk_at "go"
  · exact k _ ⟨_, _, _, hx⟩ (Int.emod_nonneg _ (by omega)) (Int.emod_lt_of_pos _ (by omega))
  · rename_i hl
    obtain ⟨n, hn⟩ := at_ints hx hl
    refine x_lst hn ?_
    walk_at "go"
    · exact k _ ⟨_, _, _, by omega⟩ (Int.emod_nonneg _ (by omega)) (Int.emod_lt_of_pos _ (by omega))
    · exact k _ ⟨_, _, _, by omega⟩ (Int.emod_nonneg _ (by omega)) (Int.emod_lt_of_pos _ (by omega))
  · exact k _ ⟨_, _, _, by omega⟩ (Int.emod_nonneg _ (by omega)) (Int.emod_lt_of_pos _ (by omega))
  · exact k _ ⟨_, _, _, by omega⟩ (Int.emod_nonneg _ (by omega)) (Int.emod_lt_of_pos _ (by omega))
def T_isint (c : Cn) : PT := fun args Po _ => ∃ n : Int, args = [.pu (.int n)] ∧ Po (.bl true) []
theorem b_law_is_integer {c : Cn} (fx : Fx c)  : Body c nm_law_is_integer gl_law_is_integer s_law_is_integer 0 (T_isint c) := by
  intro F B args Po Er I ht t
  have m_int := fx.m_int
  have m_isinstance := fx.m_isinstance
  have m_bool := fx.m_bool
  have cl_AtLeast := fx.is_AtLeast.cl
  have cl_AtMost := fx.is_AtMost.cl
  have n_AtLeast_dial := fx.n_AtLeast_dial
  have n_AtLeast_number := fx.n_AtLeast_number
  have n_AtMost_dial := fx.n_AtMost_dial
  have n_AtMost_number := fx.n_AtMost_number
  obtain ⟨n, rfl, k⟩ := t
  conv in defBody _ => whnf
  show XSs F B _ ⟨[.pu (.int n)], []⟩ _ _
  walk_at "go"
  exact k
local macro_rules | `(tactic| walk_at "pr") => `(tactic| ((with_reducible show T_isint _ _ _ _); refine ⟨_, rfl, ?_⟩))
def T_cinit (c : Cn) (x : Str) : PT := fun args Po _ => ∃ d n : Int, args = [.ar (.ins (ad c x) []), .pu (.int d), .pu (.int n)] ∧ Po .non [.ins (ad c x) [("dial", .int d), ("number", .int n)]]
theorem put2 (d n : D) : putD "number" n (putD "dial" d []) = ([(("dial" : Str), d), (("number" : Str), n)] : Fs) := by
  have h : ¬ (("dial" : Str) = "number") := by decide +kernel
  simp [putD, h]
theorem fld_cd {c : Cn} (fx : Fx c) {L : Bool} {d n : Int} : FldOk c (cond c L d n) "dial" (.int d) := by
  cases L
  · exact fld_of fx.is_AtMost.cl fx.n_AtMost_dial (by rfl)
  · exact fld_of fx.is_AtLeast.cl fx.n_AtLeast_dial (by rfl)
theorem fld_cn {c : Cn} (fx : Fx c) {L : Bool} {d n : Int} : FldOk c (cond c L d n) "number" (.int n) := by
  cases L
  · exact fld_of fx.is_AtMost.cl fx.n_AtMost_number (by rfl)
  · exact fld_of fx.is_AtLeast.cl fx.n_AtLeast_number (by rfl)
theorem con_c {c : Cn} (fx : Fx c) {L : Bool} {d n : Int} : ConOk c (cond c L d n) "is_least" L := by
  cases L
  · obtain ⟨u, h⟩ := fx.con_AtMost_is_least
    exact ⟨⟨_, _, u, rfl, fx.is_AtMost.cl, h, by rfl⟩⟩
  · obtain ⟨u, h⟩ := fx.con_AtLeast_is_least
    exact ⟨⟨_, _, u, rfl, fx.is_AtLeast.cl, h, by rfl⟩⟩
local macro_rules | `(tactic| walk_at "fok") => `(tactic| with_reducible first | exact fld_cd (by assumption) | exact fld_cn (by assumption))
local macro_rules | `(tactic| walk_at "cok") => `(tactic| with_reducible exact con_c (by assumption))
local macro_rules | `(tactic| walk_at "pr") => `(tactic| ((with_reducible show T_cinit _ _ _ _ _); refine ⟨_, _, rfl, ?_⟩))
theorem b_AtLeast_init {c : Cn} (fx : Fx c)  : Body c nm_AtLeast_init gl_AtLeast_init s_AtLeast_init 0 (T_cinit c "AtLeast") := by
  intro F B args Po Er I ht t
  have cl_AtLeast := fx.is_AtLeast.cl
  have cl_AtMost := fx.is_AtMost.cl
  have n_AtLeast_dial := fx.n_AtLeast_dial
  have n_AtLeast_number := fx.n_AtLeast_number
  have n_AtMost_dial := fx.n_AtMost_dial
  have n_AtMost_number := fx.n_AtMost_number
  obtain ⟨d, n, rfl, k⟩ := t
  conv in defBody _ => whnf
  show XSs F B _ ⟨[.ar 0, .pu (.int d), .pu (.int n)], [.ins (ad c "AtLeast") []]⟩ _ _
  refine v_scons (v_sfldA I (by walk_at "lk") (fun _ => rfl) ?_)
  walk_at "go"
  refine ⟨_, [], rfl, cl_AtLeast, n_AtLeast_dial, by decide, ?_⟩
  refine v_scons (v_sfldA I (by walk_at "lk") (fun _ => rfl) ?_)
  walk_at "go"
  refine ⟨_, _, rfl, cl_AtLeast, n_AtLeast_number, by rw [putD]; simp, ?_⟩
  rw [put2]
  walk_at "go"
  exact k
theorem b_AtMost_init {c : Cn} (fx : Fx c)  : Body c nm_AtMost_init gl_AtMost_init s_AtMost_init 0 (T_cinit c "AtMost") := by
  intro F B args Po Er I ht t
  have cl_AtLeast := fx.is_AtLeast.cl
  have cl_AtMost := fx.is_AtMost.cl
  have n_AtLeast_dial := fx.n_AtLeast_dial
  have n_AtLeast_number := fx.n_AtLeast_number
  have n_AtMost_dial := fx.n_AtMost_dial
  have n_AtMost_number := fx.n_AtMost_number
  obtain ⟨d, n, rfl, k⟩ := t
  conv in defBody _ => whnf
  show XSs F B _ ⟨[.ar 0, .pu (.int d), .pu (.int n)], [.ins (ad c "AtMost") []]⟩ _ _
  refine v_scons (v_sfldA I (by walk_at "lk") (fun _ => rfl) ?_)
  walk_at "go"
  refine ⟨_, [], rfl, cl_AtMost, n_AtMost_dial, by decide, ?_⟩
  refine v_scons (v_sfldA I (by walk_at "lk") (fun _ => rfl) ?_)
  walk_at "go"
  refine ⟨_, _, rfl, cl_AtMost, n_AtMost_number, by rw [putD]; simp, ?_⟩
  rw [put2]
  walk_at "go"
  exact k
def T_holds (c : Cn) : PT := fun args Po _ => ∃ (s : Int) (L : Bool) (d n : Int), args = [.pu (.int s), .pu (cond c L d n)] ∧ Po (.bl (mt L s n)) []
local macro_rules | `(tactic| walk_at "pr") => `(tactic| ((with_reducible show T_holds _ _ _ _); refine ⟨_, _, _, _, rfl, ?_⟩))
def T_invL (c : Cn) : PT := fun args Po _ => ∃ d n : Int, args = [.pu (cond c true d n)] ∧ Po (cond c false d (n - 1)) []
theorem b_AtLeast_invert {c : Cn} (fx : Fx c) (D_AtMost_init : Mkr c 1 "AtMost" (ad c "AtMost") 3 (T_cinit c "AtMost")) : Body c nm_AtLeast_invert gl_AtLeast_invert s_AtLeast_invert 2 (T_invL c) := by
  intro F B args Po Er I ht t
  have g_AtMost := fx.g_AtMost
  have cl_AtLeast := fx.is_AtLeast.cl
  have cl_AtMost := fx.is_AtMost.cl
  have n_AtLeast_dial := fx.n_AtLeast_dial
  have n_AtLeast_number := fx.n_AtLeast_number
  have n_AtMost_dial := fx.n_AtMost_dial
  have n_AtMost_number := fx.n_AtMost_number
  obtain ⟨d, n, rfl, k⟩ := t
  conv in defBody _ => whnf
  show XSs F B _ ⟨[.pu (cond c true d n)], []⟩ _ _
  walk_at "gt"
  exact k
def T_invM (c : Cn) : PT := fun args Po _ => ∃ d n : Int, args = [.pu (cond c false d n)] ∧ Po (cond c true d (n + 1)) []
theorem b_AtMost_invert {c : Cn} (fx : Fx c) (D_AtLeast_init : Mkr c 1 "AtLeast" (ad c "AtLeast") 3 (T_cinit c "AtLeast")) : Body c nm_AtMost_invert gl_AtMost_invert s_AtMost_invert 2 (T_invM c) := by
  intro F B args Po Er I ht t
  have g_AtLeast := fx.g_AtLeast
  have cl_AtLeast := fx.is_AtLeast.cl
  have cl_AtMost := fx.is_AtMost.cl
  have n_AtLeast_dial := fx.n_AtLeast_dial
  have n_AtLeast_number := fx.n_AtLeast_number
  have n_AtMost_dial := fx.n_AtMost_dial
  have n_AtMost_number := fx.n_AtMost_number
  obtain ⟨d, n, rfl, k⟩ := t
  conv in defBody _ => whnf
  show XSs F B _ ⟨[.pu (cond c false d n)], []⟩ _ _
  walk_at "gt"
  exact k
theorem v_opp {F : Fm} {B : Bs} {G : Gam} {c : Cn} {b : Bd} {Po : PoE} {Er : ErE} {k k2 : Nat} {pos : Pos} {e : Expr} (I : Is F c b true) (M : Mth c k (ad c "AtLeast") "__invert__" 1 (T_invL c)) (M2 : Mth c k2 (ad c "AtMost") "__invert__" 1 (T_invM c)) (hk : k ≤ b.lv) (hk2 : k2 ≤ b.lv)
    (h : WE F B e G (fun q G1 => ∃ L d n, q = cond c L d n ∧ Po (cond c (!L) d (opn L n)) G1) Er) : WE F B (.UnaryOp .Invert e pos) G Po Er := by
  refine v_inv2 I M M2 hk hk2 fun σ P H Q hh hq hr => h σ P H Q hh (fun q G' v P' H' w => hq q G' v P' H' ?_) hr
  obtain ⟨L, d, n, rfl, k⟩ := w
  cases L with
  | true => exact .inl ⟨_, rfl, d, n, rfl, k⟩
  | false => exact .inr ⟨_, rfl, d, n, rfl, k⟩
local macro_rules | `(tactic| walk_at "we") => `(tactic| with_reducible refine v_opp (by assumption) (by assumption) (by assumption) (by with_unfolding_all decide) (by with_unfolding_all decide) ?_)
def T_keyL (c : Cn) : PT := fun args Po _ => ∃ d n : Int, args = [.pu (cond c true d n)] ∧ Po (.tup [.int d, .bl true, .int n]) []
theorem b_AtLeast_key {c : Cn} (fx : Fx c)  : Body c nm_AtLeast_key gl_AtLeast_key s_AtLeast_key 0 (T_keyL c) := by
  intro F B args Po Er I ht t
  have cl_AtLeast := fx.is_AtLeast.cl
  have cl_AtMost := fx.is_AtMost.cl
  have n_AtLeast_dial := fx.n_AtLeast_dial
  have n_AtLeast_number := fx.n_AtLeast_number
  have n_AtMost_dial := fx.n_AtMost_dial
  have n_AtMost_number := fx.n_AtMost_number
  obtain ⟨d, n, rfl, k⟩ := t
  conv in defBody _ => whnf
  show XSs F B _ ⟨[.pu (cond c true d n)], []⟩ _ _
  walk_at "gt"
  exact k
def T_keyM (c : Cn) : PT := fun args Po _ => ∃ d n : Int, args = [.pu (cond c false d n)] ∧ Po (.tup [.int d, .bl false, .int n]) []
theorem b_AtMost_key {c : Cn} (fx : Fx c)  : Body c nm_AtMost_key gl_AtMost_key s_AtMost_key 0 (T_keyM c) := by
  intro F B args Po Er I ht t
  have cl_AtLeast := fx.is_AtLeast.cl
  have cl_AtMost := fx.is_AtMost.cl
  have n_AtLeast_dial := fx.n_AtLeast_dial
  have n_AtLeast_number := fx.n_AtLeast_number
  have n_AtMost_dial := fx.n_AtMost_dial
  have n_AtMost_number := fx.n_AtMost_number
  obtain ⟨d, n, rfl, k⟩ := t
  conv in defBody _ => whnf
  show XSs F B _ ⟨[.pu (cond c false d n)], []⟩ _ _
  walk_at "gt"
  exact k
def T_keyB (c : Cn) : PT := fun args Po _ => ∃ q r : Row, args = [.pu (barD c (condR c q) (condR c r))] ∧ Po (keyD (q, r)) []
local macro_rules | `(tactic| walk_at "pr") => `(tactic| ((with_reducible show T_keyB _ _ _ _); refine ⟨_, _, rfl, ?_⟩))
/-- == of a condition: with a condition, or with a thing of another kind -/
def T_ceqX (c : Cn) (M : Bool) : PT := fun args Po _ => ∃ (d n : Int) (q : D), args = [.pu (cond c M d n), .pu q] ∧ ((∃ (L : Bool) (d' n' : Int), q = cond c L d' n' ∧ Po (.bl (decide (M = L ∧ d = d' ∧ n = n'))) []) ∨ ∃ t, tyD q = some t ∧ PySem.W.kitOne c.K (.type t) (.ref (if M = true then ad c "AtLeast" else ad c "AtMost")) = some false ∧ Po (.bl false) [])
theorem b_AtLeast_eq {c : Cn} (fx : Fx c) (D_AtLeast_init : Mkr c 1 "AtLeast" (ad c "AtLeast") 3 (T_cinit c "AtLeast")) : Body c nm_AtLeast_eq gl_AtLeast_eq s_AtLeast_eq 2 (T_ceqX c true) := by
  intro F B args Po Er I ht t
  have m_isinstance := fx.m_isinstance
  have g_AtLeast := fx.g_AtLeast
  have cl_AtLeast := fx.is_AtLeast.cl
  have cl_AtMost := fx.is_AtMost.cl
  have n_AtLeast_dial := fx.n_AtLeast_dial
  have n_AtLeast_number := fx.n_AtLeast_number
  have n_AtMost_dial := fx.n_AtMost_dial
  have n_AtMost_number := fx.n_AtMost_number
  obtain ⟨d, n, q, rfl, ⟨L, d', n', rfl, k⟩ | ⟨t, ht, hk, k⟩⟩ := t
  · conv in defBody _ => whnf
    cases L with
    | true =>
      show XSs F B _ ⟨[.pu (.ins (ad c "AtLeast") [("dial", .int d), ("number", .int n)]), .pu (.ins (ad c "AtLeast") [("dial", .int d'), ("number", .int n')])], []⟩ _ _
      walk_at "go"
      refine c_isIns I fx.is_AtLeast fx.k_AtLeast_AtLeast ?_
      walk_at "go"
      · rename_i h
        subst h
        have e : decide (true = true ∧ d = d ∧ n = n') = decide (n = n') := by simp
        rw [e] at k
        exact k
      · rename_i h
        rw [decide_eq_false (fun z => h z.2.1)] at k
        exact k
    | false =>
      show XSs F B _ ⟨[.pu (.ins (ad c "AtLeast") [("dial", .int d), ("number", .int n)]), .pu (.ins (ad c "AtMost") [("dial", .int d'), ("number", .int n')])], []⟩ _ _
      walk_at "go"
      refine c_isIns I fx.is_AtMost fx.k_AtMost_AtLeast ?_
      walk_at "go"
      rw [decide_eq_false (fun z => Bool.noConfusion z.1)] at k
      exact k
  · conv in defBody _ => whnf
    show XSs F B _ ⟨[.pu (cond c true d n), .pu q], []⟩ _ _
    walk_at "go"
    refine c_isOwn I ht hk ?_
    walk_at "go"
    exact k
theorem b_AtMost_eq {c : Cn} (fx : Fx c) (D_AtMost_init : Mkr c 1 "AtMost" (ad c "AtMost") 3 (T_cinit c "AtMost")) : Body c nm_AtMost_eq gl_AtMost_eq s_AtMost_eq 2 (T_ceqX c false) := by
  intro F B args Po Er I ht t
  have m_isinstance := fx.m_isinstance
  have g_AtMost := fx.g_AtMost
  have cl_AtLeast := fx.is_AtLeast.cl
  have cl_AtMost := fx.is_AtMost.cl
  have n_AtLeast_dial := fx.n_AtLeast_dial
  have n_AtLeast_number := fx.n_AtLeast_number
  have n_AtMost_dial := fx.n_AtMost_dial
  have n_AtMost_number := fx.n_AtMost_number
  obtain ⟨d, n, q, rfl, ⟨L, d', n', rfl, k⟩ | ⟨t, ht, hk, k⟩⟩ := t
  · conv in defBody _ => whnf
    cases L with
    | false =>
      show XSs F B _ ⟨[.pu (.ins (ad c "AtMost") [("dial", .int d), ("number", .int n)]), .pu (.ins (ad c "AtMost") [("dial", .int d'), ("number", .int n')])], []⟩ _ _
      walk_at "go"
      refine c_isIns I fx.is_AtMost fx.k_AtMost_AtMost ?_
      walk_at "go"
      · rename_i h
        subst h
        have e : decide (false = false ∧ d = d ∧ n = n') = decide (n = n') := by simp
        rw [e] at k
        exact k
      · rename_i h
        rw [decide_eq_false (fun z => h z.2.1)] at k
        exact k
    | true =>
      show XSs F B _ ⟨[.pu (.ins (ad c "AtMost") [("dial", .int d), ("number", .int n)]), .pu (.ins (ad c "AtLeast") [("dial", .int d'), ("number", .int n')])], []⟩ _ _
      walk_at "go"
      refine c_isIns I fx.is_AtLeast fx.k_AtLeast_AtMost ?_
      walk_at "go"
      rw [decide_eq_false (fun z => Bool.noConfusion z.1)] at k
      exact k
  · conv in defBody _ => whnf
    show XSs F B _ ⟨[.pu (cond c false d n), .pu q], []⟩ _ _
    walk_at "go"
    refine c_isOwn I ht hk ?_
    walk_at "go"
    exact k
/-- numbers of up to 1100 digits -/
def bigR (r : Row) : Prop := r.1.natAbs < 10 ^ 1100 ∧ r.2.2.natAbs < 10 ^ 1100
def T_cbL (c : Cn) : PT := fun args Po _ => ∃ d n : Int, args = [.pu (cond c true d n)] ∧ bigR (d, true, n) ∧ Po (.str (cTx (d, true, n))) []
theorem big_ok {i : Int} (h : i.natAbs < 10 ^ 1100) : i.natAbs < 10 ^ 4300 := Nat.lt_of_lt_of_le h (Nat.pow_le_pow_right (by decide) (by decide))
theorem b_AtLeast_text {c : Cn} (fx : Fx c)  : Body c nm_AtLeast_text gl_AtLeast_text s_AtLeast_text 0 (T_cbL c) := by
  intro F B args Po Er I ht t
  have cl_AtLeast := fx.is_AtLeast.cl
  have cl_AtMost := fx.is_AtMost.cl
  have n_AtLeast_dial := fx.n_AtLeast_dial
  have n_AtLeast_number := fx.n_AtLeast_number
  have n_AtMost_dial := fx.n_AtMost_dial
  have n_AtMost_number := fx.n_AtMost_number
  obtain ⟨d, n, rfl, ⟨h1, h2⟩, k⟩ := t
  have l1 : (Str.ofString (toString d)).length ≤ 1101 := len_textK (k := 1100) (by decide) h1
  have l2 : (Str.ofString (toString n)).length ≤ 1101 := len_textK (k := 1100) (by decide) h2
  have b1 := big_ok h1
  have b2 := big_ok h2
  clear h1 h2
  have l3 : (Str.ofString ">=").length = 2 := by decide +kernel
  conv in defBody _ => whnf
  show XSs F B _ ⟨[.pu (cond c true d n)], []⟩ _ _
  refine v_scons (v_ret (v_joined3 (v_fmtB I fx.nd ?_)))
  walk_at "gs"
  refine ⟨b1, _, rfl, by clear b1 b2; omega, we_str ⟨_, rfl, by clear b1 b2; omega, v_fmtB I fx.nd ?_⟩⟩
  walk_at "gs"
  refine ⟨b2, _, rfl, by clear b1 b2; omega, ?_⟩
  exact k
def T_cbM (c : Cn) : PT := fun args Po _ => ∃ d n : Int, args = [.pu (cond c false d n)] ∧ bigR (d, false, n) ∧ Po (.str (cTx (d, false, n))) []
theorem b_AtMost_text {c : Cn} (fx : Fx c)  : Body c nm_AtMost_text gl_AtMost_text s_AtMost_text 0 (T_cbM c) := by
  intro F B args Po Er I ht t
  have cl_AtLeast := fx.is_AtLeast.cl
  have cl_AtMost := fx.is_AtMost.cl
  have n_AtLeast_dial := fx.n_AtLeast_dial
  have n_AtLeast_number := fx.n_AtLeast_number
  have n_AtMost_dial := fx.n_AtMost_dial
  have n_AtMost_number := fx.n_AtMost_number
  obtain ⟨d, n, rfl, ⟨h1, h2⟩, k⟩ := t
  have l1 : (Str.ofString (toString d)).length ≤ 1101 := len_textK (k := 1100) (by decide) h1
  have l2 : (Str.ofString (toString n)).length ≤ 1101 := len_textK (k := 1100) (by decide) h2
  have b1 := big_ok h1
  have b2 := big_ok h2
  clear h1 h2
  have l3 : (Str.ofString "<=").length = 2 := by decide +kernel
  conv in defBody _ => whnf
  show XSs F B _ ⟨[.pu (cond c false d n)], []⟩ _ _
  refine v_scons (v_ret (v_joined3 (v_fmtB I fx.nd ?_)))
  walk_at "gs"
  refine ⟨b1, _, rfl, by clear b1 b2; omega, we_str ⟨_, rfl, by clear b1 b2; omega, v_fmtB I fx.nd ?_⟩⟩
  walk_at "gs"
  refine ⟨b2, _, rfl, by clear b1 b2; omega, ?_⟩
  exact k
theorem o_mulX {F : Fm} {B : Bs} {G : Gam} {Po : PoE} {i j : Int} (hc : CMulX i j) (k : Po (.int (i * j)) G) : Op F B (binaryOp .Mult) (.int i) (.int j) G Po := op_I (fun _ => op_mulX) hc (fun _ => .int _) k
theorem ten_two {i : Nat} {a : Nat} (h : i < 10 ^ a) : i < 2 ^ (4 * a) := Nat.lt_of_lt_of_le h (by rw [Nat.pow_mul]; exact Nat.pow_le_pow_left (by decide) a)
theorem mul_ten {i j : Int} {a b : Nat} (hi : i.natAbs < 10 ^ a) (hj : j.natAbs < 10 ^ b) : (i * j).natAbs < 10 ^ (a + b) := by
  rw [Int.natAbs_mul, Nat.pow_add]
  exact Nat.mul_lt_mul'' hi hj
def T_numB (c : Cn) : PT := fun args Po _ => ∃ (ns : List Int) (s : Stk), args = [.pu (iL ns), .ar (stk s)] ∧ ∀ (n : Int) (s' : Stk), n.natAbs < 10 ^ 40 → Po (.int n) [stk s']
theorem M_law_number {c : Cn} : Mono (T_numB c) := by walk_at "mono"
theorem b_law_number {c : Cn} (fx : Fx c) (D_law_take : Dm c 1 "_law_take" 3 (T_take c)) : Body c nm_law_number gl_law_number s_law_number 1 (T_numB c) := by
  intro F B args Po Er I ht t
  have cl_AtLeast := fx.is_AtLeast.cl
  have cl_AtMost := fx.is_AtMost.cl
  have n_AtLeast_dial := fx.n_AtLeast_dial
  have n_AtLeast_number := fx.n_AtLeast_number
  have n_AtMost_dial := fx.n_AtMost_dial
  have n_AtMost_number := fx.n_AtMost_number
  have M_law_take := @M_law_take c
  obtain ⟨ns, s, rfl, k⟩ := t
  conv in defBody _ => whnf
  show XSs F B _ ⟨[.pu (iL ns), .ar 0, .no, .no], [stk s]⟩ _ _
  walk_at "gt"
  · rename_i t s2 h1 h2
    exact k _ _ (Nat.lt_trans (show (t - 3).natAbs < 1000 by omega) (by decide +kernel))
  · rename_i t s2 h1 h2
    exact k _ _ (Nat.lt_trans (show (t - 1000).natAbs < 5000 by omega) (by decide +kernel))
  · rename_i a s2 a1 a2 b s3 b1 b2 e s4 e1 e2
    have e9 : (10 : Int) ^ Int.toNat 9 = 1000000000 := by decide +kernel
    have e26 : (10 : Int) ^ Int.toNat 26 = 100000000000000000000000000 := by decide +kernel
    rw [e9] at a2 b2 e2
    rw [e9, e26]
    refine k _ _ ?_
    have e40 : (10 : Nat) ^ 40 = 10000000000000000000000000000000000000000 := by decide +kernel
    rw [e40]
    omega
def T_lobj (c : Cn) : PT := fun args Po _ => ∃ r : Row, args = [.pu (rowD r)] ∧ Po (condR c r) []
theorem b_law_object {c : Cn} (fx : Fx c) (D_AtLeast_init : Mkr c 1 "AtLeast" (ad c "AtLeast") 3 (T_cinit c "AtLeast")) (D_AtMost_init : Mkr c 1 "AtMost" (ad c "AtMost") 3 (T_cinit c "AtMost")) : Body c nm_law_object gl_law_object s_law_object 2 (T_lobj c) := by
  intro F B args Po Er I ht t
  have g_AtLeast := fx.g_AtLeast
  have g_AtMost := fx.g_AtMost
  have cl_AtLeast := fx.is_AtLeast.cl
  have cl_AtMost := fx.is_AtMost.cl
  have n_AtLeast_dial := fx.n_AtLeast_dial
  have n_AtLeast_number := fx.n_AtLeast_number
  have n_AtMost_dial := fx.n_AtMost_dial
  have n_AtMost_number := fx.n_AtMost_number
  obtain ⟨⟨d, l, n⟩, rfl, k⟩ := t
  conv in defBody _ => whnf
  show XSs F B _ ⟨[.pu (.tup [.int d, .bl l, .int n])], []⟩ _ _
  cases l with
  | true =>
    walk_at "st1"
    walk_at "gt"
    exact k
  | false =>
    walk_at "st1"
    walk_at "gt"
    exact k
def T_lir (c : Cn) : PT := fun args Po _ => ∃ r : Row, args = [.pu (condR c r), .pu (rowD r)] ∧ Po (.bl true) []
theorem b_law_is_row {c : Cn} (fx : Fx c) (D_AtLeast_init : Mkr c 1 "AtLeast" (ad c "AtLeast") 3 (T_cinit c "AtLeast")) (D_AtMost_init : Mkr c 1 "AtMost" (ad c "AtMost") 3 (T_cinit c "AtMost")) (D_law_is_integer : Dn c 1 "_law_is_integer" 1 (T_isint c)) : Body c nm_law_is_row gl_law_is_row s_law_is_row 2 (T_lir c) := by
  intro F B args Po Er I ht t
  have m_isinstance := fx.m_isinstance
  have g_AtLeast := fx.g_AtLeast
  have g_AtMost := fx.g_AtMost
  have cl_AtLeast := fx.is_AtLeast.cl
  have cl_AtMost := fx.is_AtMost.cl
  have n_AtLeast_dial := fx.n_AtLeast_dial
  have n_AtLeast_number := fx.n_AtLeast_number
  have n_AtMost_dial := fx.n_AtMost_dial
  have n_AtMost_number := fx.n_AtMost_number
  obtain ⟨⟨d, l, n⟩, rfl, k⟩ := t
  conv in defBody _ => whnf
  show XSs F B _ ⟨[.pu (cond c l d n), .pu (.tup [.int d, .bl l, .int n])], []⟩ _ _
  cases l with
  | true =>
    walk_at "st1"
    walk_at "st1"
    refine c_isIns I fx.is_AtLeast fx.k_AtLeast_AtLeast ?_
    walk_at "gs"
    refine v_snil (v_snil ?_)
    walk_at "st1"
    refine v_snil ?_
    walk_at "st1"
    · show Po (.bl (decide (n = n))) []
      rw [decide_eq_true (Eq.refl n)]
      exact k
    · rename_i h
      exact absurd rfl h
  | false =>
    walk_at "st1"
    walk_at "st1"
    refine c_isIns I fx.is_AtMost fx.k_AtMost_AtMost ?_
    walk_at "gs"
    refine v_snil (v_snil ?_)
    walk_at "st1"
    refine v_snil ?_
    walk_at "st1"
    · show Po (.bl (decide (n = n))) []
      rw [decide_eq_true (Eq.refl n)]
      exact k
    · rename_i h
      exact absurd rfl h
theorem key_ofB {c : Cn} {r : Row} {Q : D → Prop} {E : Addr → Fs → List Ob → Prop} (k : Q (rowD r)) : (∃ fs, condR c r = .ins (ad c "AtLeast") fs ∧ fs.lookup ("key" : Str) = none ∧ T_keyL c [.pu (.ins (ad c "AtLeast") fs)] (fun d _ => Q d) E) ∨ (∃ fs, condR c r = .ins (ad c "AtMost") fs ∧ fs.lookup ("key" : Str) = none ∧ T_keyM c [.pu (.ins (ad c "AtMost") fs)] (fun d _ => Q d) E) := by
  obtain ⟨d, l, n⟩ := r
  cases l with
  | true => exact .inl ⟨_, rfl, rfl, d, n, rfl, k⟩
  | false => exact .inr ⟨_, rfl, rfl, d, n, rfl, k⟩
theorem txt_ofB {c : Cn} {r : Row} {Q : D → Prop} {E : Addr → Fs → List Ob → Prop} (hr : bigR r) (k : Q (.str (cTx r))) : (∃ fs, condR c r = .ins (ad c "AtLeast") fs ∧ fs.lookup ("text" : Str) = none ∧ T_cbL c [.pu (.ins (ad c "AtLeast") fs)] (fun d _ => Q d) E) ∨ (∃ fs, condR c r = .ins (ad c "AtMost") fs ∧ fs.lookup ("text" : Str) = none ∧ T_cbM c [.pu (.ins (ad c "AtMost") fs)] (fun d _ => Q d) E) := by
  obtain ⟨d, l, n⟩ := r
  cases l with
  | true => exact .inl ⟨_, rfl, rfl, d, n, rfl, hr, k⟩
  | false => exact .inr ⟨_, rfl, rfl, d, n, rfl, hr, k⟩
def T_lk (c : Cn) : PT := fun args Po _ => ∃ r : Row, args = [.pu (condR c r), .pu (rowD r)] ∧ bigR r ∧ Po (.bl true) []
theorem b_law_look {c : Cn} (fx : Fx c) (D_law_is_row : Dn c 3 "_law_is_row" 2 (T_lir c)) (D_law_is_integer : Dn c 1 "_law_is_integer" 1 (T_isint c)) (D_AtLeast_key : Mth c 1 (ad c "AtLeast") "key" 1 (T_keyL c)) (D_AtMost_key : Mth c 1 (ad c "AtMost") "key" 1 (T_keyM c)) (D_AtLeast_text : Mth c 1 (ad c "AtLeast") "text" 1 (T_cbL c)) (D_AtMost_text : Mth c 1 (ad c "AtMost") "text" 1 (T_cbM c)) : Body c nm_law_look gl_law_look s_law_look 3 (T_lk c) := by
  intro F B args Po Er I ht t
  have m_len := fx.m_len
  have m_isinstance := fx.m_isinstance
  have m_bool := fx.m_bool
  have m_tuple := fx.m_tuple
  have m_str := fx.m_str
  have cl_AtLeast := fx.is_AtLeast.cl
  have cl_AtMost := fx.is_AtMost.cl
  have n_AtLeast_dial := fx.n_AtLeast_dial
  have n_AtLeast_number := fx.n_AtLeast_number
  have n_AtMost_dial := fx.n_AtMost_dial
  have n_AtMost_number := fx.n_AtMost_number
  obtain ⟨r, rfl, hr, k⟩ := t
  conv in defBody _ => whnf
  show XSs F B _ ⟨[.pu (condR c r), .pu (rowD r), .no, .no], []⟩ _ _
  have b1 := big_ok hr.1
  have b2 := big_ok hr.2
  have l1 : (Str.ofString (toString r.1)).length ≤ 1101 := len_textK (k := 1100) (by decide) hr.1
  have l2 : (Str.ofString (toString r.2.2)).length ≤ 1101 := len_textK (k := 1100) (by decide) hr.2
  have l3 := sg_len r.2.1
  walk_at "st1"
  refine ⟨r, rfl, ?_⟩
  walk_at "gs"
  refine v_snil (v_scons (w_asg I (by walk_at "nn") (fun _ => rfl) (v_meth02 I D_AtLeast_key D_AtMost_key cl_AtLeast cl_AtMost (by decide) (by decide) (fun _ => rfl) ?_)))
  walk_at "gs"
  refine key_ofB ?_
  walk_at "gs"
  walk_at "st1"
  rotate_left
  · rename_i h
    exact absurd (by rfl) h
  refine v_snil ?_
  walk_at "st1"
  refine v_snil ?_
  walk_at "st1"
  refine v_scons (v_cut (fun G => G = ⟨[.pu (condR c r), .pu (rowD r), .pu (rowD r), .pu (.str (sg r.2.1))], []⟩) ?_ ?_)
  · clear b1 b2 l1 l2 l3
    obtain ⟨d, l, n⟩ := r
    cases l with
    | true =>
      walk_at "gs"
      walk_at "go"
      rfl
    | false =>
      walk_at "gs"
      walk_at "go"
      rfl
  rintro G1 rfl
  refine v_scons (v_if ?_)
  repeat' ((fail_if_success with_reducible refine q_callA ?_); (fail_if_success with_reducible refine q_xss ?_); walk_at "s1")
  refine v_meth02 I D_AtLeast_text D_AtMost_text cl_AtLeast cl_AtMost (by decide) (by decide) (fun _ => rfl) ?_
  walk_at "gs"
  refine txt_ofB hr ?_
  clear hr
  walk_at "gs"
  refine c_strB I fx.nd b1 ?_
  walk_at "gs"
  refine o_catS (by clear b1 b2; omega) ?_
  walk_at "gs"
  refine c_strB I fx.nd b2 ?_
  walk_at "gs"
  refine o_catS (by clear b1 b2; rw [len_cat]; omega) ?_
  rw [show Str.ofString (toString r.1) ++ sg r.2.1 ++ Str.ofString (toString r.2.2) = cTx r from rfl]
  walk_at "gs"
  all_goals (try (rename_i h; exact absurd rfl h))
  refine v_snil ?_
  walk_at "st1"
  show Po (.bl (r.2.1 == r.2.1)) []
  rw [beq_self_eq_true]
  exact k
def oppR (r : Row) : Row := (r.1, !r.2.1, opn r.2.1 r.2.2)
def T_lop (c : Cn) : PT := fun args Po _ => ∃ r : Row, args = [.pu (rowD r)] ∧ Po (rowD (oppR r)) []
theorem b_law_opposite {c : Cn} (fx : Fx c)  : Body c nm_law_opposite gl_law_opposite s_law_opposite 0 (T_lop c) := by
  intro F B args Po Er I ht t
  have cl_AtLeast := fx.is_AtLeast.cl
  have cl_AtMost := fx.is_AtMost.cl
  have n_AtLeast_dial := fx.n_AtLeast_dial
  have n_AtLeast_number := fx.n_AtLeast_number
  have n_AtMost_dial := fx.n_AtMost_dial
  have n_AtMost_number := fx.n_AtMost_number
  obtain ⟨⟨d, l, n⟩, rfl, k⟩ := t
  conv in defBody _ => whnf
  show XSs F B _ ⟨[.pu (.tup [.int d, .bl l, .int n])], []⟩ _ _
  cases l with
  | true =>
    walk_at "st1"
    walk_at "gt"
    exact k
  | false =>
    walk_at "st1"
    walk_at "gt"
    exact k
def T_lfar (c : Cn) : PT := fun args Po _ => ∃ (ns : List Int) (s : Stk), args = [.pu (iL ns), .ar (stk s)] ∧ ∀ (n : Int) (s' : Stk), n.natAbs < 10 ^ 1050 → Po (.int n) [stk s']
theorem M_law_far {c : Cn} : Mono (T_lfar c) := by walk_at "mono"
theorem b_law_far {c : Cn} (fx : Fx c) (D_law_take : Dm c 1 "_law_take" 3 (T_take c)) : Body c nm_law_far gl_law_far s_law_far 1 (T_lfar c) := by
  intro F B args Po Er I ht t
  have m_range := fx.m_range
  have cl_AtLeast := fx.is_AtLeast.cl
  have cl_AtMost := fx.is_AtMost.cl
  have n_AtLeast_dial := fx.n_AtLeast_dial
  have n_AtLeast_number := fx.n_AtLeast_number
  have n_AtMost_dial := fx.n_AtMost_dial
  have n_AtMost_number := fx.n_AtMost_number
  have M_law_take := @M_law_take c
  obtain ⟨ns, s, rfl, k⟩ := t
  conv in defBody _ => whnf
  show XSs F B _ ⟨[.pu (iL ns), .ar 0, .no, .no], [stk s]⟩ _ _
  have h60 : ((10 : Int) ^ Int.toNat 60).natAbs < 10 ^ 61 := by decide +kernel
  have h38 : ((10 : Int) ^ Int.toNat 38).natAbs < 10 ^ 39 := by decide +kernel
  have h6 : (10 : Int) ^ Int.toNat 6 = 1000000 := by decide +kernel
  walk_at "st1"
  rename_i t s1 ht0 ht1
  refine v_scons ?_
  refine v_loop Int (fun a => ⟨[.pu (iL ns), .ar 0, .pu (.int a), .no], [stk s1]⟩) (fun j a => a.natAbs < 10 ^ (61 * j + 2)) (js := [3]) I (fun _ _ => rfl) (v_range1 I m_range (by walk_at "in") (fun _ => rfl) ?_)
  walk_at "gs"
  refine ⟨_, rfl, by decide, by decide, 1 + t, by walk_at "Le", ?_, ?_, ?_⟩
  · show (1 + t).natAbs < 100
    clear h60 h38
    omega
  · rintro B' j e a he hi
    obtain ⟨hj, rfl⟩ := range_at he
    have hj : j < 16 := hj
    refine v_gname I (by walk_at "put") ?_
    walk_at "st1"
    refine o_mulX (mulx_ok (ten_two hi) (ten_two h60) (by clear hi h60 h38; omega)) ?_
    walk_at "go"
    refine ⟨_, by walk_at "Le", ?_⟩
    have := mul_ten hi h60
    rw [show 61 * j + 2 + 61 = 61 * (j + 1) + 2 from by clear hi h60 h38 this; omega] at this
    exact this
  rintro a hi
  have hi : a.natAbs < 10 ^ 978 := hi
  walk_at "st1"
  refine o_mulX (mulx_ok (ten_two hi) (ten_two h38) (by decide)) ?_
  have hm := mul_ten hi h38
  generalize a * 10 ^ Int.toNat 38 = x at hm
  walk_at "gs"
  rename_i t2 s2 hb0 hb1
  refine k _ _ ?_
  rw [h6] at hb1
  have e1 : (1000000 : Nat) ≤ 10 ^ 1017 := Nat.le_trans (show (1000000 : Nat) ≤ 10 ^ 6 by decide) (Nat.pow_le_pow_right (by decide) (by decide))
  have e2 : (10 : Nat) ^ 1018 ≤ 10 ^ 1050 := Nat.pow_le_pow_right (by decide) (by decide)
  have e3 : (10 : Nat) ^ 1018 = 10 ^ 1017 * 10 := by rw [show 1018 = 1017 + 1 from rfl, Nat.pow_add, Nat.pow_one]
  have hm : x.natAbs < 10 ^ 1017 := hm
  clear h60 h38 hi
  generalize (10 : Nat) ^ 1050 = Q at e2 ⊢
  generalize (10 : Nat) ^ 1018 = P at e2 e3
  generalize (10 : Nat) ^ 1017 = O at e1 e3 hm
  omega
section
variable {c : Cn} (fx : Fx c) {k1 k2 : Nat} (M1 : Mth c k1 (ad c "AtLeast") "__eq__" 2 (T_ceqX c true)) (M2 : Mth c k2 (ad c "AtMost") "__eq__" 2 (T_ceqX c false)) (h1 : k1 ≤ 3) (h2 : k2 ≤ 3)
include fx M1 M2 h1 h2
theorem eq_condX (r q : Row) : RcD c 3 (condR c r) (condR c q) (decide (r = q)) := by
  obtain ⟨d, l, n⟩ := r
  obtain ⟨d', l', n'⟩ := q
  have key : ∀ l l' : Bool, D.bl (decide (l = l' ∧ d = d' ∧ n = n')) = D.bl (decide (((d, l, n) : Row) = (d', l', n'))) := fun l l' => congrArg D.bl (decide_eq_decide.mpr ⟨fun ⟨a, b, e⟩ => by rw [a, b, e], fun h => by injection h with h1 h2; injection h2 with h3 h4; exact ⟨h3, h1, h4⟩⟩)
  cases l <;> cases l'
  · have e : RcD c k2 (condR c (d, false, n)) (condR c (d', false, n')) (decide (((d, false, n) : Row) = (d', false, n'))) := rc_own1 M2 ⟨d, n, _, rfl, .inl ⟨false, d', n', rfl, key _ _⟩⟩
    exact @RcO.mono _ _ _ _ _ _ _ @e h2
  · have e : RcD c k2 (condR c (d, false, n)) (condR c (d', true, n')) (decide (((d, false, n) : Row) = (d', true, n'))) := rc_ownL M2 rfl fx.nf_AtMost_AtLeast ⟨d, n, _, rfl, .inl ⟨true, d', n', rfl, key _ _⟩⟩
    exact @RcO.mono _ _ _ _ _ _ _ @e h2
  · have e : RcD c k1 (condR c (d, true, n)) (condR c (d', false, n')) (decide (((d, true, n) : Row) = (d', false, n'))) := rc_ownL M1 rfl fx.nf_AtLeast_AtMost ⟨d, n, _, rfl, .inl ⟨false, d', n', rfl, key _ _⟩⟩
    exact @RcO.mono _ _ _ _ _ _ _ @e h1
  · have e : RcD c k1 (condR c (d, true, n)) (condR c (d', true, n')) (decide (((d, true, n) : Row) = (d', true, n'))) := rc_own1 M1 ⟨d, n, _, rfl, .inl ⟨true, d', n', rfl, key _ _⟩⟩
    exact @RcO.mono _ _ _ _ _ _ _ @e h1
theorem eq_other (r : Row) {q : D} {t : String} (tt : tyK q = some (.type t)) (ty : tyD q = some t) (n1 : PySem.W.notFirst c.K (ad c "AtLeast") (.type t) = true) (n2 : PySem.W.notFirst c.K (ad c "AtMost") (.type t) = true) (o1 : PySem.W.kitOne c.K (.type t) (.ref (ad c "AtLeast")) = some false) (o2 : PySem.W.kitOne c.K (.type t) (.ref (ad c "AtMost")) = some false) : RcD c 3 (condR c r) q false := by
  obtain ⟨d, l, n⟩ := r
  cases l
  · have e : RcD c k2 (condR c (d, false, n)) q false := rc_ownL M2 tt n2 ⟨d, n, _, rfl, .inr ⟨t, ty, o2, rfl⟩⟩
    exact @RcO.mono _ _ _ _ _ _ _ @e h2
  · have e : RcD c k1 (condR c (d, true, n)) q false := rc_ownL M1 tt n1 ⟨d, n, _, rfl, .inr ⟨t, ty, o1, rfl⟩⟩
    exact @RcO.mono _ _ _ _ _ _ _ @e h1
end
theorem opp2 (c : Cn) (r : Row) : condR c (oppR (oppR r)) = condR c r := by
  obtain ⟨d, l, n⟩ := r
  cases l
  · show cond c (!!false) d (opn (!false) (opn false n)) = cond c false d n
    simp [opn]
  · show cond c (!!true) d (opn (!true) (opn true n)) = cond c true d n
    simp [opn]
theorem opp_ne (r : Row) : decide (r = oppR r) = false := decide_eq_false fun h => by
  obtain ⟨d, l, n⟩ := r
  have := congrArg (fun r : Row => r.2.1) h
  cases l <;> cases this
theorem ok_rw (r : Row) : okD (rowD r) = true := ok_tupS (by simp [smp])
theorem o_eqRow {F : Fm} {B : Bs} {G : Gam} {Po : PoE} {r q : Row} (k : Po (.bl (decide (r = q))) G) : Op F B (compareOp .Eq) (rowD r) (rowD q) G Po := o_eqD (ok_rw r) (ok_rw q) (by unfold eqD; rw [eqD_row]; exact k)
theorem big_opp {r : Row} (h : r.1.natAbs < 10 ^ 1060 ∧ r.2.2.natAbs < 10 ^ 1060) : bigR r ∧ bigR (oppR r) := by
  obtain ⟨d, l, n⟩ := r
  obtain ⟨h1, h2⟩ := h
  have e1 : (10 : Nat) ^ 1060 < 10 ^ 1100 := Nat.pow_lt_pow_right (by decide) (by decide)
  have h1 : d.natAbs < 10 ^ 1060 := h1
  have h2 : n.natAbs < 10 ^ 1060 := h2
  have key : ∀ P Q : Nat, P < Q → d.natAbs < P → n.natAbs < P → (d.natAbs < Q ∧ n.natAbs < Q) ∧ (d.natAbs < Q ∧ (opn l n).natAbs < Q) := fun P Q e h1 h2 => by
    cases l <;> simp only [opn] <;> (refine ⟨⟨by omega, by omega⟩, by omega, ?_⟩) <;> (try split) <;> omega
  exact key _ _ e1 h1 h2
theorem p_k06b {c : Cn} (fx : Fx c) (D_law_take : Dm c 1 "_law_take" 3 (T_take c)) (D_law_number : Dm c 2 "_law_number" 2 (T_numB c)) (D_law_far : Dm c 2 "_law_far" 2 (T_lfar c)) (D_AtLeast_init : Mkr c 1 "AtLeast" (ad c "AtLeast") 3 (T_cinit c "AtLeast")) (D_AtMost_init : Mkr c 1 "AtMost" (ad c "AtMost") 3 (T_cinit c "AtMost")) (D_law_object : Dn c 3 "_law_object" 1 (T_lobj c)) (D_law_look : Dn c 4 "_law_look" 2 (T_lk c)) (D_law_opposite : Dn c 1 "_law_opposite" 1 (T_lop c)) (D_AtLeast_text : Mth c 1 (ad c "AtLeast") "text" 1 (T_cbL c)) (D_AtMost_text : Mth c 1 (ad c "AtMost") "text" 1 (T_cbM c)) (D_AtLeast_eq : Mth c 3 (ad c "AtLeast") "__eq__" 2 (T_ceqX c true)) (D_AtMost_eq : Mth c 3 (ad c "AtMost") "__eq__" 2 (T_ceqX c false)) (D_AtLeast_invert : Mth c 3 (ad c "AtLeast") "__invert__" 1 (T_invL c)) (D_AtMost_invert : Mth c 3 (ad c "AtMost") "__invert__" 1 (T_invM c)) {F : Fm} {B : Bs} {Po : D → List Ob → Prop} {Er : Addr → Fs → List Ob → Prop} (I : Is F c ⟨nm_law, gl_law, defScope s_law, 4⟩ true) (ht : F.top = true) {ns : List Int} {s3 : Stk} {fl d1 n1 fa : Int} {R : List Row} (hR : ∀ r, r ∈ R → bigR r ∧ bigR (oppR r)) (lR : R.length ≤ 100) (k : Po (.bl true) []) : XSs F B ((defBody s_law).drop 11) ⟨[.pu (iL ns), .ow (stk s3), .pu (.int fl), .pu (.int d1), .pu (.int n1), .pu (.lst (R.map rowD)), .pu (.int fa), .no, .no, .no, .no], []⟩ (fun G => Po .non G.ar) (rsOf Po Er) := by
  have g_AtLeast := fx.g_AtLeast
  have g_AtMost := fx.g_AtMost
  have cl_AtLeast := fx.is_AtLeast.cl
  have cl_AtMost := fx.is_AtMost.cl
  have n_AtLeast_dial := fx.n_AtLeast_dial
  have n_AtLeast_number := fx.n_AtLeast_number
  have n_AtMost_dial := fx.n_AtMost_dial
  have n_AtMost_number := fx.n_AtMost_number
  have M_law_take := @M_law_take c
  have M_law_number := @M_law_number c
  have M_law_far := @M_law_far c
  conv in List.drop _ _ => whnf
  show XSs F B _ ⟨[.pu (iL ns), .ow (stk s3), .pu (.int fl), .pu (.int d1), .pu (.int n1), .pu (.lst (R.map rowD)), .pu (.int fa), .no, .no, .no, .no], []⟩ _ _
  refine v_scons ?_
  refine v_loop Unit (fun _ => ⟨[.pu (iL ns), .ow (stk s3), .pu (.int fl), .pu (.int d1), .pu (.int n1), .pu (.lst (R.map rowD)), .pu (.int fa), .no, .no, .no, .no], []⟩) (fun _ _ => True) (js := [7]) I (fun _ _ => rfl) (wi_seq ?_)
  walk_at "gs"
  refine ⟨_, .lst _, (), by walk_at "Le", trivial, ?_, ?_⟩
  · rintro B' j e _ he _
    rw [List.getElem?_map] at he
    obtain ⟨r, hr, rfl⟩ := Option.map_eq_some_iff.mp he
    obtain ⟨b1, b2⟩ := hR r (List.mem_of_getElem? hr)
    refine v_gname I (by walk_at "put") ?_
    walk_at "st1"
    refine ⟨r, rfl, ?_⟩
    walk_at "gs"
    walk_at "st1"
    have eqq : ∀ q : Row, RcD c 3 (condR c r) (condR c q) (decide (r = q)) := fun q => @eq_condX c fx _ _ D_AtLeast_eq D_AtMost_eq (by decide) (by decide) r q
    have e1 : RcD c 3 (condR c r) (condR c r) true := by
      have t : RcD c 3 (condR c r) (condR c r) (decide (r = r)) := @eq_condX c fx _ _ D_AtLeast_eq D_AtMost_eq (by decide) (by decide) r r
      rw [decide_eq_true (Eq.refl r)] at t
      exact @t
    have e2 : RcD c 3 (condR c r) (condR c (oppR r)) false := by
      have t : RcD c 3 (condR c r) (condR c (oppR r)) (decide (r = oppR r)) := @eq_condX c fx _ _ D_AtLeast_eq D_AtMost_eq (by decide) (by decide) r (oppR r)
      rw [opp_ne] at t
      exact @t
    have et : RcD c 3 (condR c r) (rowD r) false := @eq_other c fx _ _ D_AtLeast_eq D_AtMost_eq (by decide) (by decide) r _ "tuple" rfl rfl fx.nf_AtLeast_tuple fx.nf_AtMost_tuple fx.k_t_tuple_AtLeast fx.k_t_tuple_AtMost
    have es : RcD c 3 (condR c r) (.str (cTx r)) false := @eq_other c fx _ _ D_AtLeast_eq D_AtMost_eq (by decide) (by decide) r _ "str" rfl rfl fx.nf_AtLeast_str fx.nf_AtMost_str fx.k_t_str_AtLeast fx.k_t_str_AtMost
    have en : RcD c 3 (condR c r) .non false := @eq_other c fx _ _ D_AtLeast_eq D_AtMost_eq (by decide) (by decide) r _ "NoneType" rfl rfl fx.nf_AtLeast_NoneType fx.nf_AtMost_NoneType fx.k_t_NoneType_AtLeast fx.k_t_NoneType_AtMost
    have o2 : cond c (!!r.2.1) r.1 (opn (!r.2.1) (opn r.2.1 r.2.2)) = condR c r := opp2 c r
    walk_at "st1"
    refine ⟨r, rfl, b1, ?_⟩
    walk_at "gs"
    refine ⟨r, rfl, ?_⟩
    walk_at "gs"
    refine ⟨oppR r, rfl, b2, ?_⟩
    walk_at "gs"
    refine v_snil ?_
    walk_at "st1"
    rw [o2]
    refine ⟨r, rfl, b1, ?_⟩
    walk_at "gs"
    rw [o2]
    refine o_eqK e1 I (by decide) ?_
    walk_at "gs"
    refine o_eqK e2 I (by decide) ?_
    walk_at "gs"
    refine v_snil (v_scons (v_if ?_))
    repeat' ((fail_if_success with_reducible refine q_callA ?_); (fail_if_success with_reducible refine q_op ?_); (fail_if_success with_reducible refine q_xss ?_); walk_at "s1")
    refine ⟨r, rfl, b1, ?_⟩
    repeat' ((fail_if_success with_reducible refine q_callA ?_); (fail_if_success with_reducible refine q_op ?_); (fail_if_success with_reducible refine q_xss ?_); walk_at "s1")
    refine o_eqK et I (by decide) ?_
    repeat' ((fail_if_success with_reducible refine q_callA ?_); (fail_if_success with_reducible refine q_op ?_); (fail_if_success with_reducible refine q_xss ?_); walk_at "s1")
    refine v_meth02 I D_AtLeast_text D_AtMost_text cl_AtLeast cl_AtMost (by decide) (by decide) (fun _ => rfl) ?_
    walk_at "gs"
    refine txt_ofB b1 ?_
    refine o_eqK es I (by decide) ?_
    repeat' ((fail_if_success with_reducible refine q_callA ?_); (fail_if_success with_reducible refine q_op ?_); (fail_if_success with_reducible refine q_xss ?_); walk_at "s1")
    refine o_eqK en I (by decide) ?_
    walk_at "gs"
    refine v_snil (v_scons ?_)
    refine v_loop Unit (fun _ => ⟨[.pu (iL ns), .ow (stk s3), .pu (.int fl), .pu (.int d1), .pu (.int n1), .pu (.lst (R.map rowD)), .pu (.int fa), .pu (rowD r), .pu (condR c r), .pu (condR c (oppR r)), .no], []⟩) (fun _ _ => True) (js := [10]) I (fun _ _ => rfl) (wi_seq ?_)
    walk_at "gs"
    refine ⟨_, .lst _, (), by walk_at "Le", trivial, ?_, ?_⟩
    · rintro B2 i e2 _ he2 _
      rw [List.getElem?_map] at he2
      obtain ⟨q, hq, rfl⟩ := Option.map_eq_some_iff.mp he2
      refine v_gname I (by walk_at "put") ?_
      walk_at "st1"
      refine ⟨q, rfl, ?_⟩
      walk_at "gs"
      refine o_eqK (eqq q) I (by decide) ?_
      walk_at "gs"
      refine o_eqRow ?_
      walk_at "gs"
      rotate_left
      · rename_i h
        exact absurd rfl h
      walk_at "go"
      exact ⟨(), by walk_at "Le", trivial⟩
    rintro _ _
    walk_at "go"
    exact ⟨(), by walk_at "Le", trivial⟩
  rintro _ _
  walk_at "go"
  exact k
theorem b_law {c : Cn} (fx : Fx c) (D_law_take : Dm c 1 "_law_take" 3 (T_take c)) (D_law_number : Dm c 2 "_law_number" 2 (T_numB c)) (D_law_far : Dm c 2 "_law_far" 2 (T_lfar c)) (D_AtLeast_init : Mkr c 1 "AtLeast" (ad c "AtLeast") 3 (T_cinit c "AtLeast")) (D_AtMost_init : Mkr c 1 "AtMost" (ad c "AtMost") 3 (T_cinit c "AtMost")) (D_law_object : Dn c 3 "_law_object" 1 (T_lobj c)) (D_law_look : Dn c 4 "_law_look" 2 (T_lk c)) (D_law_opposite : Dn c 1 "_law_opposite" 1 (T_lop c)) (D_AtLeast_text : Mth c 1 (ad c "AtLeast") "text" 1 (T_cbL c)) (D_AtMost_text : Mth c 1 (ad c "AtMost") "text" 1 (T_cbM c)) (D_AtLeast_eq : Mth c 3 (ad c "AtLeast") "__eq__" 2 (T_ceqX c true)) (D_AtMost_eq : Mth c 3 (ad c "AtMost") "__eq__" 2 (T_ceqX c false)) (D_AtLeast_invert : Mth c 3 (ad c "AtLeast") "__invert__" 1 (T_invL c)) (D_AtMost_invert : Mth c 3 (ad c "AtMost") "__invert__" 1 (T_invM c)) : Body c nm_law gl_law s_law 4 (T_law) := by
  intro F B args Po Er I ht t
  have g_AtLeast := fx.g_AtLeast
  have g_AtMost := fx.g_AtMost
  have cl_AtLeast := fx.is_AtLeast.cl
  have cl_AtMost := fx.is_AtMost.cl
  have n_AtLeast_dial := fx.n_AtLeast_dial
  have n_AtLeast_number := fx.n_AtLeast_number
  have n_AtMost_dial := fx.n_AtMost_dial
  have n_AtMost_number := fx.n_AtMost_number
  have M_law_take := @M_law_take c
  have M_law_number := @M_law_number c
  have M_law_far := @M_law_far c
  obtain ⟨ns, rfl, k⟩ := t
  conv in defBody _ => whnf
  show XSs F B _ ⟨[.pu (iL ns), .no, .no, .no, .no, .no, .no, .no, .no, .no, .no], []⟩ _ _
  walk_at "st1"
  show XSs F B _ ⟨[.pu (iL ns), .ow (stk ⟨0, 0, 0, by decide⟩), .no, .no, .no, .no, .no, .no, .no, .no, .no], []⟩ _ _
  walk_at "st1"
  rename_i fl s0 hf0 hf1
  walk_at "st1"
  refine ⟨ns, s0, rfl, fun d0 s1 hd0 => ?_⟩
  walk_at "gs"
  walk_at "st1"
  refine ⟨ns, s1, rfl, fun n0 s2 hn0 => ?_⟩
  walk_at "gs"
  walk_at "st1"
  refine v_frzS "_law_rows" I (by walk_at "lk") (by walk_at "st") ?_
  walk_at "st1"
  refine ⟨ns, s2, rfl, fun fa s3 hfa => ?_⟩
  walk_at "gs"
  refine v_scons (v_asgO I (by walk_at "nn") (fun _ => rfl) (v_catW ?_))
  walk_at "gs"
  refine ⟨_, rfl, ?_⟩
  walk_at "gs"
  refine ⟨_, rfl, by simp, ?_⟩
  walk_at "gs"
  show XSs F B _ ⟨[.pu (iL ns), .ow (stk s3), .pu (.int fl), .pu (.int d0), .pu (.int n0), .ow (.lst (([(d0, true, n0), (d0, false, n0), (fa, true, 0 - fa), (1 - fa, false, fa)] : List Row).map rowD)), .pu (.int fa), .no, .no, .no, .no], []⟩ _ _
  refine v_scons (v_cut (fun G => ∃ (d1 n1 : Int) (s4 : Stk), d1.natAbs < 10 ^ 41 ∧ n1.natAbs < 10 ^ 41 ∧ G = ⟨[.pu (iL ns), .ow (stk s4), .pu (.int fl), .pu (.int d1), .pu (.int n1), .ow (.lst (([(d0, true, n0), (d0, false, n0), (fa, true, 0 - fa), (1 - fa, false, fa)] : List Row).map rowD)), .pu (.int fa), .no, .no, .no, .no], []⟩) ?_ ?_)
  · have e41 : (10 : Nat) ^ 41 = 100000000000000000000000000000000000000000 := by decide +kernel
    have e40 : (10 : Nat) ^ 40 = 10000000000000000000000000000000000000000 := by decide +kernel
    rw [e40] at hd0 hn0
    rw [e41]
    clear hfa e40 e41
    walk_at "gs"
    · walk_at "gt"
      rename_i t1 s5 ha0 ha1 t2 s6 hb0 hb1
      exact ⟨d0 + t1 - 1, n0 + t2 - 1, s6, by omega, by omega, rfl⟩
    · walk_at "go"
      exact ⟨d0, n0, s3, by omega, by omega, rfl⟩
  rintro G1 ⟨d1, n1, s4, hd1, hn1, rfl⟩
  walk_at "st1"
  · simp
  walk_at "gs"
  walk_at "st1"
  · simp
  walk_at "gs"
  refine v_frzS "_law_rows" I (by walk_at "lk") (by walk_at "st") ?_
  show XSs F B _ ⟨[.pu (iL ns), .ow (stk s4), .pu (.int fl), .pu (.int d1), .pu (.int n1), .pu (.lst (([(d0, true, n0), (d0, false, n0), (fa, true, 0 - fa), (1 - fa, false, fa), (d1, true, n1), (d1, false, n1)] : List Row).map rowD)), .pu (.int fa), .no, .no, .no, .no], []⟩ _ _
  refine v_scons (v_if ?_)
  repeat' ((fail_if_success with_reducible refine q_attr ?_); (fail_if_success with_reducible refine q_xss ?_); walk_at "s1")
  refine v_cval (y := true) I (fun _ => by with_unfolding_all rfl) ?_
  repeat' ((fail_if_success with_reducible refine q_attr ?_); (fail_if_success with_reducible refine q_xss ?_); walk_at "s1")
  refine ⟨_, rfl, fx.rd_AtLeast, fx.ga_AtLeast, fx.cv_AtLeast, ?_⟩
  repeat' ((fail_if_success with_reducible refine q_attr ?_); (fail_if_success with_reducible refine q_xss ?_); walk_at "s1")
  refine v_cval (y := false) I (fun _ => by with_unfolding_all rfl) ?_
  repeat' ((fail_if_success with_reducible refine q_attr ?_); (fail_if_success with_reducible refine q_xss ?_); walk_at "s1")
  refine ⟨_, rfl, fx.rd_AtMost, fx.ga_AtMost, fx.cv_AtMost, ?_⟩
  walk_at "gs"
  refine v_snil ?_
  have hR : ∀ r, r ∈ ([(d0, true, n0), (d0, false, n0), (fa, true, 0 - fa), (1 - fa, false, fa), (d1, true, n1), (d1, false, n1)] : List Row) → bigR r ∧ bigR (oppR r) := fun r hr => by
    have p1 : (10 : Nat) ^ 40 ≤ 10 ^ 1050 := Nat.pow_le_pow_right (by decide) (by decide)
    have p2 : (10 : Nat) ^ 41 ≤ 10 ^ 1050 := Nat.pow_le_pow_right (by decide) (by decide)
    have p3 : (10 : Nat) ^ 1050 < 10 ^ 1060 := Nat.pow_lt_pow_right (by decide) (by decide)
    have p4 : (1 : Nat) < 10 ^ 1050 := Nat.one_lt_pow (by decide) (by decide)
    have key : ∀ P Q : Nat, P < Q → 1 < P → d0.natAbs < P → n0.natAbs < P → fa.natAbs < P → d1.natAbs < P → n1.natAbs < P → r.1.natAbs < Q ∧ r.2.2.natAbs < Q := fun P Q a1 a2 a3 a4 a5 a6 a7 => by
      simp only [List.mem_cons, List.not_mem_nil, or_false] at hr
      rcases hr with rfl | rfl | rfl | rfl | rfl | rfl <;> (dsimp only; omega)
    exact big_opp (key _ _ p3 p4 (Nat.lt_of_lt_of_le hd0 p1) (Nat.lt_of_lt_of_le hn0 p1) hfa (Nat.lt_of_lt_of_le hd1 p2) (Nat.lt_of_lt_of_le hn1 p2))
  exact @p_k06b c fx D_law_take D_law_number D_law_far D_AtLeast_init D_AtMost_init D_law_object D_law_look D_law_opposite D_AtLeast_text D_AtMost_text D_AtLeast_eq D_AtMost_eq D_AtLeast_invert D_AtMost_invert F B Po Er I ht ns s4 fl d1 n1 fa [(d0, true, n0), (d0, false, n0), (fa, true, 0 - fa), (1 - fa, false, fa), (d1, true, n1), (d1, false, n1)] hR (by simp) k
theorem facts {P : Program} {w : World} {K : PySem.W.Frag} {h : Heap} {mg : Str → Option Value} (X : K.In h) (G : h.Ns mainGlobals mg) (cc : He.SaysD fa fn K) (mo : ex K = true) (fcs : ∀ (i : Nat) (d : DefC), fc[i]? = some d → ∃ cc cda fd, FunC K P.main.file "__init__" d.qual d.st (He.ga K d.cls) (adC K d) cc cda fd) (htop : (P.main.scope.names.lookup ("super" : Str)).isSome = false) :
    ∃ fd : FuncData, (∀ (s : Shared) (v : Value), BindsTo s fd ⟨[v], []⟩ [("_law_script", v)]) ∧ ∀ base : Heap, FnOk P w K mg base (L2.CX P w) 5 (He.ga K "law") fd ["_law_script"] (spOf K T_law 1) := by
  obtain ⟨fd, F⟩ := cc.def_ 8 (d := dd "law" s_law) rfl
  have F1 : FunD K "law" "law" (defArgs s_law) (defBody s_law) (defScope s_law) [] [] (He.ga K "law") fd := F
  have b := FunD.bindsA (ps := ["_law_script"]) F1 fun _ _ _ _ _ _ us hl => match us, hl with | [_], _ => rfl
  refine ⟨fd, fun s v => b s [v] rfl, fun base => ?_⟩
  let c : Cn := ⟨P, w, K, mg, base⟩
  have m_int : c.mg "int" = none := He.free_ok X G (cc.fact 23 (f := .free "int") rfl)
  have m_len : c.mg "len" = none := He.free_ok X G (cc.fact 24 (f := .free "len") rfl)
  have m_isinstance : c.mg "isinstance" = none := He.free_ok X G (cc.fact 25 (f := .free "isinstance") rfl)
  have m_bool : c.mg "bool" = none := He.free_ok X G (cc.fact 26 (f := .free "bool") rfl)
  have m_tuple : c.mg "tuple" = none := He.free_ok X G (cc.fact 27 (f := .free "tuple") rfl)
  have m_str : c.mg "str" = none := He.free_ok X G (cc.fact 28 (f := .free "str") rfl)
  have m_range : c.mg "range" = none := He.free_ok X G (cc.fact 29 (f := .free "range") rfl)
  have g_AtLeast : c.mg "AtLeast" = some (.ref (ad c "AtLeast")) := He.glo_ok X G (cc.fact 9 (f := .glo "AtLeast") rfl)
  have g_AtMost : c.mg "AtMost" = some (.ref (ad c "AtMost")) := He.glo_ok X G (cc.fact 10 (f := .glo "AtMost") rfl)
  have is_AtLeast : IsC c.K (ad c "AtLeast") := isCB_ok (He.cls_ok (cc.fact 11 (f := .cls "AtLeast") rfl)) (ex_at mo 0 rfl)
  have is_AtMost : IsC c.K (ad c "AtMost") := isCB_ok (He.cls_ok (cc.fact 12 (f := .cls "AtMost") rfl)) (ex_at mo 1 rfl)
  have n_AtLeast_dial : NoAttr c.K (ad c "AtLeast") "dial" := He.noat_ok (cc.fact 30 (f := .noat "AtLeast" "dial") rfl)
  have n_AtLeast_number : NoAttr c.K (ad c "AtLeast") "number" := He.noat_ok (cc.fact 31 (f := .noat "AtLeast" "number") rfl)
  have n_AtMost_dial : NoAttr c.K (ad c "AtMost") "dial" := He.noat_ok (cc.fact 32 (f := .noat "AtMost" "dial") rfl)
  have n_AtMost_number : NoAttr c.K (ad c "AtMost") "number" := He.noat_ok (cc.fact 33 (f := .noat "AtMost" "number") rfl)
  have k_AtLeast_AtLeast : PySem.W.kitOne c.K (.ref (ad c "AtLeast")) (.ref (ad c "AtLeast")) = some true := of_decide_eq_true (ex_at mo 2 rfl)
  have k_AtLeast_AtMost : PySem.W.kitOne c.K (.ref (ad c "AtLeast")) (.ref (ad c "AtMost")) = some false := of_decide_eq_true (ex_at mo 3 rfl)
  have k_AtMost_AtLeast : PySem.W.kitOne c.K (.ref (ad c "AtMost")) (.ref (ad c "AtLeast")) = some false := of_decide_eq_true (ex_at mo 4 rfl)
  have k_AtMost_AtMost : PySem.W.kitOne c.K (.ref (ad c "AtMost")) (.ref (ad c "AtMost")) = some true := of_decide_eq_true (ex_at mo 5 rfl)
  have k_t_NoneType_AtLeast : PySem.W.kitOne c.K (.type "NoneType") (.ref (ad c "AtLeast")) = some false := of_decide_eq_true (ex_at mo 6 rfl)
  have k_t_NoneType_AtMost : PySem.W.kitOne c.K (.type "NoneType") (.ref (ad c "AtMost")) = some false := of_decide_eq_true (ex_at mo 7 rfl)
  have k_t_bool_AtLeast : PySem.W.kitOne c.K (.type "bool") (.ref (ad c "AtLeast")) = some false := of_decide_eq_true (ex_at mo 8 rfl)
  have k_t_bool_AtMost : PySem.W.kitOne c.K (.type "bool") (.ref (ad c "AtMost")) = some false := of_decide_eq_true (ex_at mo 9 rfl)
  have k_t_int_AtLeast : PySem.W.kitOne c.K (.type "int") (.ref (ad c "AtLeast")) = some false := of_decide_eq_true (ex_at mo 10 rfl)
  have k_t_int_AtMost : PySem.W.kitOne c.K (.type "int") (.ref (ad c "AtMost")) = some false := of_decide_eq_true (ex_at mo 11 rfl)
  have k_t_str_AtLeast : PySem.W.kitOne c.K (.type "str") (.ref (ad c "AtLeast")) = some false := of_decide_eq_true (ex_at mo 12 rfl)
  have k_t_str_AtMost : PySem.W.kitOne c.K (.type "str") (.ref (ad c "AtMost")) = some false := of_decide_eq_true (ex_at mo 13 rfl)
  have k_t_tuple_AtLeast : PySem.W.kitOne c.K (.type "tuple") (.ref (ad c "AtLeast")) = some false := of_decide_eq_true (ex_at mo 14 rfl)
  have k_t_tuple_AtMost : PySem.W.kitOne c.K (.type "tuple") (.ref (ad c "AtMost")) = some false := of_decide_eq_true (ex_at mo 15 rfl)
  have k_t_list_AtLeast : PySem.W.kitOne c.K (.type "list") (.ref (ad c "AtLeast")) = some false := of_decide_eq_true (ex_at mo 16 rfl)
  have k_t_list_AtMost : PySem.W.kitOne c.K (.type "list") (.ref (ad c "AtMost")) = some false := of_decide_eq_true (ex_at mo 17 rfl)
  have k_t_dict_AtLeast : PySem.W.kitOne c.K (.type "dict") (.ref (ad c "AtLeast")) = some false := of_decide_eq_true (ex_at mo 18 rfl)
  have k_t_dict_AtMost : PySem.W.kitOne c.K (.type "dict") (.ref (ad c "AtMost")) = some false := of_decide_eq_true (ex_at mo 19 rfl)
  have con_AtLeast_is_least : ∃ u, Con c.K (ad c "AtLeast") "is_least" (.bl true) u := conB_ok (ex_at mo 20 rfl)
  have con_AtMost_is_least : ∃ u, Con c.K (ad c "AtMost") "is_least" (.bl false) u := conB_ok (ex_at mo 21 rfl)
  have nf_AtLeast_AtMost : PySem.W.notFirst c.K (ad c "AtLeast") (.ref (ad c "AtMost")) = true := ex_at mo 22 rfl
  have nf_AtMost_AtLeast : PySem.W.notFirst c.K (ad c "AtMost") (.ref (ad c "AtLeast")) = true := ex_at mo 23 rfl
  have nf_AtLeast_tuple : PySem.W.notFirst c.K (ad c "AtLeast") (.type "tuple") = true := ex_at mo 24 rfl
  have nf_AtLeast_str : PySem.W.notFirst c.K (ad c "AtLeast") (.type "str") = true := ex_at mo 25 rfl
  have nf_AtLeast_NoneType : PySem.W.notFirst c.K (ad c "AtLeast") (.type "NoneType") = true := ex_at mo 26 rfl
  have nf_AtMost_tuple : PySem.W.notFirst c.K (ad c "AtMost") (.type "tuple") = true := ex_at mo 27 rfl
  have nf_AtMost_str : PySem.W.notFirst c.K (ad c "AtMost") (.type "str") = true := ex_at mo 28 rfl
  have nf_AtMost_NoneType : PySem.W.notFirst c.K (ad c "AtMost") (.type "NoneType") = true := ex_at mo 29 rfl
  have nd : PySem.W.nsIn c.K cStatics "sys.int_max_str_digits" = some none := of_decide_eq_true (ex_at mo 30 rfl)
  have rd_AtLeast : PySem.W.readsIn c.K (ad c "AtLeast") (.type "type") = true := of_decide_eq_true (ex_at mo 31 rfl)
  have rd_AtMost : PySem.W.readsIn c.K (ad c "AtMost") (.type "type") = true := of_decide_eq_true (ex_at mo 32 rfl)
  have ga_AtLeast : PySem.W.specialIn c.K (.ref (ad c "AtLeast")) "__getattribute__" = some (some (.builtin "type.__getattribute__")) := of_decide_eq_true (ex_at mo 33 rfl)
  have ga_AtMost : PySem.W.specialIn c.K (.ref (ad c "AtMost")) "__getattribute__" = some (some (.builtin "type.__getattribute__")) := of_decide_eq_true (ex_at mo 34 rfl)
  have cv_AtLeast : cvB (PySem.W.findCls c.K (.ref (ad c "AtLeast")) (.type "type") "is_least") true = true := of_decide_eq_true (ex_at mo 35 rfl)
  have cv_AtMost : cvB (PySem.W.findCls c.K (.ref (ad c "AtMost")) (.type "type") "is_least") false = true := of_decide_eq_true (ex_at mo 36 rfl)
  have fx : Fx c := ⟨m_int, m_len, m_isinstance, m_bool, m_tuple, m_str, m_range, g_AtLeast, g_AtMost, is_AtLeast, is_AtMost, n_AtLeast_dial, n_AtLeast_number, n_AtMost_dial, n_AtMost_number, k_AtLeast_AtLeast, k_AtLeast_AtMost, k_AtMost_AtLeast, k_AtMost_AtMost, k_t_NoneType_AtLeast, k_t_NoneType_AtMost, k_t_bool_AtLeast, k_t_bool_AtMost, k_t_int_AtLeast, k_t_int_AtMost, k_t_str_AtLeast, k_t_str_AtMost, k_t_tuple_AtLeast, k_t_tuple_AtMost, k_t_list_AtLeast, k_t_list_AtMost, k_t_dict_AtLeast, k_t_dict_AtMost, nf_AtLeast_AtMost, nf_AtMost_AtLeast, nf_AtLeast_tuple, nf_AtLeast_str, nf_AtLeast_NoneType, nf_AtMost_tuple, nf_AtMost_str, nf_AtMost_NoneType, nd, rd_AtLeast, rd_AtMost, ga_AtLeast, ga_AtMost, cv_AtLeast, cv_AtMost, con_AtLeast_is_least, con_AtMost_is_least⟩
  have D_law_take : Dn c 1 "_law_take" 3 (T_take c) := dn_fact (c := c) (st := s_law_take) (nm := nm_law_take) (gl := gl_law_take) (He.glo_ok X G (cc.fact 0 (f := .glo "_law_take") rfl)) (cc.def_ 0 (d := dd "_law_take" s_law_take) rfl) (fun _ _ _ _ _ _ us hl => match us, hl with | [_, _, _], _ => rfl) sc_law_take nb_law_take gb_law_take rfl rfl fun F B args Po Er I ht t hl => b_law_take fx  F B args Po Er I ht t
  have D_law_is_integer : Dn c 1 "_law_is_integer" 1 (T_isint c) := dn_fact (c := c) (st := s_law_is_integer) (nm := nm_law_is_integer) (gl := gl_law_is_integer) (He.glo_ok X G (cc.fact 1 (f := .glo "_law_is_integer") rfl)) (cc.def_ 1 (d := dd "_law_is_integer" s_law_is_integer) rfl) (fun _ _ _ _ _ _ us hl => match us, hl with | [_], _ => rfl) sc_law_is_integer nb_law_is_integer gb_law_is_integer rfl rfl fun F B args Po Er I ht t hl => b_law_is_integer fx  F B args Po Er I ht t
  have D_AtLeast_init : Mkr c 1 "AtLeast" (ad c "AtLeast") 3 (T_cinit c "AtLeast") := by
    obtain ⟨fd, F⟩ := cc.def_ 9 (d := dm "AtLeast" "__init__" "AtLeast.__init__" s_AtLeast_init) rfl
    have F2 : FunD K "__init__" "AtLeast.__init__" (defArgs s_AtLeast_init) (defBody s_AtLeast_init) (defScope s_AtLeast_init) [] [] (He.ma K (He.ga K "AtLeast") "__init__") fd := F
    exact mkr_of (c := c) (nm := nm_AtLeast_init) (gl := gl_AtLeast_init) (He.mkr_ok (cc.fact 13 (f := .mkr "AtLeast") rfl)) g_AtLeast F2 (fun _ _ _ _ _ _ us hl => match us, hl with | [_, _, _], _ => rfl) sc_AtLeast_init nb_AtLeast_init gb_AtLeast_init rfl rfl fun F B args Po Er I ht t hl => b_AtLeast_init fx  F B args Po Er I ht t
  have D_AtMost_init : Mkr c 1 "AtMost" (ad c "AtMost") 3 (T_cinit c "AtMost") := by
    obtain ⟨fd, F⟩ := cc.def_ 10 (d := dm "AtMost" "__init__" "AtMost.__init__" s_AtMost_init) rfl
    have F2 : FunD K "__init__" "AtMost.__init__" (defArgs s_AtMost_init) (defBody s_AtMost_init) (defScope s_AtMost_init) [] [] (He.ma K (He.ga K "AtMost") "__init__") fd := F
    exact mkr_of (c := c) (nm := nm_AtMost_init) (gl := gl_AtMost_init) (He.mkr_ok (cc.fact 14 (f := .mkr "AtMost") rfl)) g_AtMost F2 (fun _ _ _ _ _ _ us hl => match us, hl with | [_, _, _], _ => rfl) sc_AtMost_init nb_AtMost_init gb_AtMost_init rfl rfl fun F B args Po Er I ht t hl => b_AtMost_init fx  F B args Po Er I ht t
  have D_AtLeast_invert : Mth c 3 (ad c "AtLeast") "__invert__" 1 (T_invL c) := by
    obtain ⟨fd, F⟩ := cc.def_ 11 (d := dm "AtLeast" "__invert__" "AtLeast.__invert__" s_AtLeast_invert) rfl
    have F2 : FunD K "__invert__" "AtLeast.__invert__" (defArgs s_AtLeast_invert) (defBody s_AtLeast_invert) (defScope s_AtLeast_invert) [] [] (He.ma K (He.ga K "AtLeast") "__invert__") fd := F
    exact mth_of (c := c) (nm := nm_AtLeast_invert) (gl := gl_AtLeast_invert) (He.meth_ok (cc.fact 15 (f := .meth "AtLeast" "__invert__") rfl)) F2 (fun _ _ _ _ _ _ us hl => match us, hl with | [_], _ => rfl) sc_AtLeast_invert nb_AtLeast_invert gb_AtLeast_invert rfl fun F B args Po Er I ht t hl => b_AtLeast_invert fx D_AtMost_init F B args Po Er I ht t
  have D_AtMost_invert : Mth c 3 (ad c "AtMost") "__invert__" 1 (T_invM c) := by
    obtain ⟨fd, F⟩ := cc.def_ 12 (d := dm "AtMost" "__invert__" "AtMost.__invert__" s_AtMost_invert) rfl
    have F2 : FunD K "__invert__" "AtMost.__invert__" (defArgs s_AtMost_invert) (defBody s_AtMost_invert) (defScope s_AtMost_invert) [] [] (He.ma K (He.ga K "AtMost") "__invert__") fd := F
    exact mth_of (c := c) (nm := nm_AtMost_invert) (gl := gl_AtMost_invert) (He.meth_ok (cc.fact 16 (f := .meth "AtMost" "__invert__") rfl)) F2 (fun _ _ _ _ _ _ us hl => match us, hl with | [_], _ => rfl) sc_AtMost_invert nb_AtMost_invert gb_AtMost_invert rfl fun F B args Po Er I ht t hl => b_AtMost_invert fx D_AtLeast_init F B args Po Er I ht t
  have D_AtLeast_key : Mth c 1 (ad c "AtLeast") "key" 1 (T_keyL c) := by
    obtain ⟨fd, F⟩ := cc.def_ 13 (d := dm "AtLeast" "key" "AtLeast.key" s_AtLeast_key) rfl
    have F2 : FunD K "key" "AtLeast.key" (defArgs s_AtLeast_key) (defBody s_AtLeast_key) (defScope s_AtLeast_key) [] [] (He.ma K (He.ga K "AtLeast") "key") fd := F
    exact mth_of (c := c) (nm := nm_AtLeast_key) (gl := gl_AtLeast_key) (He.meth_ok (cc.fact 17 (f := .meth "AtLeast" "key") rfl)) F2 (fun _ _ _ _ _ _ us hl => match us, hl with | [_], _ => rfl) sc_AtLeast_key nb_AtLeast_key gb_AtLeast_key rfl fun F B args Po Er I ht t hl => b_AtLeast_key fx  F B args Po Er I ht t
  have D_AtMost_key : Mth c 1 (ad c "AtMost") "key" 1 (T_keyM c) := by
    obtain ⟨fd, F⟩ := cc.def_ 14 (d := dm "AtMost" "key" "AtMost.key" s_AtMost_key) rfl
    have F2 : FunD K "key" "AtMost.key" (defArgs s_AtMost_key) (defBody s_AtMost_key) (defScope s_AtMost_key) [] [] (He.ma K (He.ga K "AtMost") "key") fd := F
    exact mth_of (c := c) (nm := nm_AtMost_key) (gl := gl_AtMost_key) (He.meth_ok (cc.fact 18 (f := .meth "AtMost" "key") rfl)) F2 (fun _ _ _ _ _ _ us hl => match us, hl with | [_], _ => rfl) sc_AtMost_key nb_AtMost_key gb_AtMost_key rfl fun F B args Po Er I ht t hl => b_AtMost_key fx  F B args Po Er I ht t
  have D_AtLeast_eq : Mth c 3 (ad c "AtLeast") "__eq__" 2 (T_ceqX c true) := by
    obtain ⟨fd, F⟩ := cc.def_ 15 (d := dm "AtLeast" "__eq__" "AtLeast.__eq__" s_AtLeast_eq) rfl
    have F2 : FunD K "__eq__" "AtLeast.__eq__" (defArgs s_AtLeast_eq) (defBody s_AtLeast_eq) (defScope s_AtLeast_eq) [] [] (He.ma K (He.ga K "AtLeast") "__eq__") fd := F
    exact mth_of (c := c) (nm := nm_AtLeast_eq) (gl := gl_AtLeast_eq) (He.meth_ok (cc.fact 19 (f := .meth "AtLeast" "__eq__") rfl)) F2 (fun _ _ _ _ _ _ us hl => match us, hl with | [_, _], _ => rfl) sc_AtLeast_eq nb_AtLeast_eq gb_AtLeast_eq rfl fun F B args Po Er I ht t hl => b_AtLeast_eq fx D_AtLeast_init F B args Po Er I ht t
  have D_AtMost_eq : Mth c 3 (ad c "AtMost") "__eq__" 2 (T_ceqX c false) := by
    obtain ⟨fd, F⟩ := cc.def_ 16 (d := dm "AtMost" "__eq__" "AtMost.__eq__" s_AtMost_eq) rfl
    have F2 : FunD K "__eq__" "AtMost.__eq__" (defArgs s_AtMost_eq) (defBody s_AtMost_eq) (defScope s_AtMost_eq) [] [] (He.ma K (He.ga K "AtMost") "__eq__") fd := F
    exact mth_of (c := c) (nm := nm_AtMost_eq) (gl := gl_AtMost_eq) (He.meth_ok (cc.fact 20 (f := .meth "AtMost" "__eq__") rfl)) F2 (fun _ _ _ _ _ _ us hl => match us, hl with | [_, _], _ => rfl) sc_AtMost_eq nb_AtMost_eq gb_AtMost_eq rfl fun F B args Po Er I ht t hl => b_AtMost_eq fx D_AtMost_init F B args Po Er I ht t
  have D_AtLeast_text : Mth c 1 (ad c "AtLeast") "text" 1 (T_cbL c) := by
    obtain ⟨fd, F⟩ := cc.def_ 17 (d := dm "AtLeast" "text" "AtLeast.text" s_AtLeast_text) rfl
    have F2 : FunD K "text" "AtLeast.text" (defArgs s_AtLeast_text) (defBody s_AtLeast_text) (defScope s_AtLeast_text) [] [] (He.ma K (He.ga K "AtLeast") "text") fd := F
    exact mth_of (c := c) (nm := nm_AtLeast_text) (gl := gl_AtLeast_text) (He.meth_ok (cc.fact 21 (f := .meth "AtLeast" "text") rfl)) F2 (fun _ _ _ _ _ _ us hl => match us, hl with | [_], _ => rfl) sc_AtLeast_text nb_AtLeast_text gb_AtLeast_text rfl fun F B args Po Er I ht t hl => b_AtLeast_text fx  F B args Po Er I ht t
  have D_AtMost_text : Mth c 1 (ad c "AtMost") "text" 1 (T_cbM c) := by
    obtain ⟨fd, F⟩ := cc.def_ 18 (d := dm "AtMost" "text" "AtMost.text" s_AtMost_text) rfl
    have F2 : FunD K "text" "AtMost.text" (defArgs s_AtMost_text) (defBody s_AtMost_text) (defScope s_AtMost_text) [] [] (He.ma K (He.ga K "AtMost") "text") fd := F
    exact mth_of (c := c) (nm := nm_AtMost_text) (gl := gl_AtMost_text) (He.meth_ok (cc.fact 22 (f := .meth "AtMost" "text") rfl)) F2 (fun _ _ _ _ _ _ us hl => match us, hl with | [_], _ => rfl) sc_AtMost_text nb_AtMost_text gb_AtMost_text rfl fun F B args Po Er I ht t hl => b_AtMost_text fx  F B args Po Er I ht t
  have D_law_number : Dn c 2 "_law_number" 2 (T_numB c) := dn_fact (c := c) (st := s_law_number) (nm := nm_law_number) (gl := gl_law_number) (He.glo_ok X G (cc.fact 2 (f := .glo "_law_number") rfl)) (cc.def_ 2 (d := dd "_law_number" s_law_number) rfl) (fun _ _ _ _ _ _ us hl => match us, hl with | [_, _], _ => rfl) sc_law_number nb_law_number gb_law_number rfl rfl fun F B args Po Er I ht t hl => b_law_number fx D_law_take F B args Po Er I ht t
  have D_law_object : Dn c 3 "_law_object" 1 (T_lobj c) := dn_fact (c := c) (st := s_law_object) (nm := nm_law_object) (gl := gl_law_object) (He.glo_ok X G (cc.fact 3 (f := .glo "_law_object") rfl)) (cc.def_ 3 (d := dd "_law_object" s_law_object) rfl) (fun _ _ _ _ _ _ us hl => match us, hl with | [_], _ => rfl) sc_law_object nb_law_object gb_law_object rfl rfl fun F B args Po Er I ht t hl => b_law_object fx D_AtLeast_init D_AtMost_init F B args Po Er I ht t
  have D_law_is_row : Dn c 3 "_law_is_row" 2 (T_lir c) := dn_fact (c := c) (st := s_law_is_row) (nm := nm_law_is_row) (gl := gl_law_is_row) (He.glo_ok X G (cc.fact 4 (f := .glo "_law_is_row") rfl)) (cc.def_ 4 (d := dd "_law_is_row" s_law_is_row) rfl) (fun _ _ _ _ _ _ us hl => match us, hl with | [_, _], _ => rfl) sc_law_is_row nb_law_is_row gb_law_is_row rfl rfl fun F B args Po Er I ht t hl => b_law_is_row fx D_AtLeast_init D_AtMost_init D_law_is_integer F B args Po Er I ht t
  have D_law_look : Dn c 4 "_law_look" 2 (T_lk c) := dn_fact (c := c) (st := s_law_look) (nm := nm_law_look) (gl := gl_law_look) (He.glo_ok X G (cc.fact 5 (f := .glo "_law_look") rfl)) (cc.def_ 5 (d := dd "_law_look" s_law_look) rfl) (fun _ _ _ _ _ _ us hl => match us, hl with | [_, _], _ => rfl) sc_law_look nb_law_look gb_law_look rfl rfl fun F B args Po Er I ht t hl => b_law_look fx D_law_is_row D_law_is_integer D_AtLeast_key D_AtMost_key D_AtLeast_text D_AtMost_text F B args Po Er I ht t
  have D_law_opposite : Dn c 1 "_law_opposite" 1 (T_lop c) := dn_fact (c := c) (st := s_law_opposite) (nm := nm_law_opposite) (gl := gl_law_opposite) (He.glo_ok X G (cc.fact 6 (f := .glo "_law_opposite") rfl)) (cc.def_ 6 (d := dd "_law_opposite" s_law_opposite) rfl) (fun _ _ _ _ _ _ us hl => match us, hl with | [_], _ => rfl) sc_law_opposite nb_law_opposite gb_law_opposite rfl rfl fun F B args Po Er I ht t hl => b_law_opposite fx  F B args Po Er I ht t
  have D_law_far : Dn c 2 "_law_far" 2 (T_lfar c) := dn_fact (c := c) (st := s_law_far) (nm := nm_law_far) (gl := gl_law_far) (He.glo_ok X G (cc.fact 7 (f := .glo "_law_far") rfl)) (cc.def_ 7 (d := dd "_law_far" s_law_far) rfl) (fun _ _ _ _ _ _ us hl => match us, hl with | [_, _], _ => rfl) sc_law_far nb_law_far gb_law_far rfl rfl fun F B args Po Er I ht t hl => b_law_far fx D_law_take F B args Po Er I ht t
  exact law_ok (c := c) (nm := nm_law) (gl := gl_law) F1.plain sc_law nb_law gb_law rfl fun F B args Po Er I ht t hl => b_law fx D_law_take D_law_number D_law_far D_AtLeast_init D_AtMost_init D_law_object D_law_look D_law_opposite D_AtLeast_text D_AtMost_text D_AtLeast_eq D_AtMost_eq D_AtLeast_invert D_AtMost_invert F B args Po Er I ht t
end TV
open PySem PySem.W PySem.Calls PyProof.Rows
set_option maxHeartbeats 0 in
theorem PySem.Challenge.cw_threevotes_k06_conditions_and_opposites_holds : PySem.Challenge.rw_threevotes_k06_conditions_and_opposites.Holds := by
  w_on; o_law
  refine HandSHeadRun.head_any (r := OpenLaw.row PySem.Challenge.rw_threevotes_k06_conditions_and_opposites) (q := view (OpenLaw.row PySem.Challenge.rw_threevotes_k06_conditions_and_opposites).prog [12]) (H := TV.hk) (ob := TV.ob) (M := 12000) (loose := TV.loose) (d := HandSHeadRun.topDef (OpenLaw.row PySem.Challenge.rw_threevotes_k06_conditions_and_opposites).prog 12) (kwd := []) TV.ob_eq (by kernel_rfl) (fun s => by kernel_rfl) ?run (by kernel_rfl) (by kernel_rfl) (by kernel_rfl) ?hwr ?k1 ?ok ?hb ?hw ?hc
  case run => exact TV.run
  case hwr => rfl
  case k1 => first | assumption | decide +kernel
  case ok => decide +kernel
  case hb => exact ⟨rfl, rfl, rfl, rfl, rfl, by decide +kernel⟩
  case hw => w_witness2
  case hc =>
    refine TV.walk_w (ll := PySem.Challenge.rw_threevotes_k06_conditions_and_opposites) (nn := 63) (kk := 5) (xx := "_law_script") (T := TV.T_law) rfl (by decide) (by kernel_rfl) ⟨rfl, by decide, by decide⟩ (fun ns Po Er h => ⟨ns, rfl, h⟩) ?F
    intro w mg fa h Y G hmg0
    obtain ⟨K, KX, c, cf⟩ := Y
    have hmg : mg ("law" : PySem.Str) = some (.ref fa) := by
      have e : (HandSHeadRun.topDef (OpenLaw.row PySem.Challenge.rw_threevotes_k06_conditions_and_opposites).prog 12).name = ("law" : PySem.Str) := by kernel_rfl
      rw [← e]
      exact hmg0
    have e := hmg.symm.trans (He.glo_ok KX G (c.t.d.fact 8 (f := .glo "law") rfl))
    cases e
    obtain ⟨fd, hb, hF⟩ := TV.facts (P := (PySem.Challenge.rw_threevotes_k06_conditions_and_opposites).prog) (w := w) KX G c.t.d (TV.exY_ok c.more) (fun i d hd => TV.funC_at c.more cf i hd) (by decide +kernel)
    exact ⟨K, fd, KX, hb, hF⟩

