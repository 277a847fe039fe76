import PyProof.Rows.All
import Wide.All
import OpenK.AllK
import Wide.FinOn
import HandS.ForMost
import HandS.Wide
import HandS.TupAny
import HandS.IsInst
import HandS.TryOnly
import HandS.Exc
import HandS.Flt
import KE.DataMinMax
import HandS.Zip
import KE.GoesEnum
import KE.GoesMore
import HandS.ForSpec
import HandS.Defaults
import PyProof.EqAt
import PyProof.EqKinds
import PyProof.TupleCall
import KE.KFromBytes
import KE.KSuper
import KE.KExcSuper
import HandS.Base
import HandS.Call
import HandS.List
import HandS.Ends
import HandS.ExcInit
import HandS.ExcField
import HandS.ExcIs
import HandS.TryMany
import KE.KIsAll
import KE.KTryMore
import HandS.Comp
import HandS.Words
import HandS.ExcOwn
import KE.KStateDown
import HandS.Head0
import HandS.Head1
import HandS.Head2
import HandS.HeadEnd
import HandS.HeadHook1
import HandS.HeadHook2
import PySem.Challenge.RW_shelfmill_k79_fair_shares
set_option Elab.async false
set_option linter.all false
set_option maxRecDepth 100000
set_option maxHeartbeats 4000000
/-! PL1: plain data D, how it lies in the abstract heap (Rp), slots and temporaries (Rep). -/
namespace PL
open PySem PySem.Spec PyProof.Rows L2

/-- plain data; lst: a tracked list that nobody changes any more; lsq: a list that may only be read (the script); obj: an instance of an own class -/
inductive D where
  | non | bl (b : Bool) | int (i : Int) | str (x : Str)
  | tup (ds : List D) | lst (ds : List D) | lsq (ds : List D) | obj (c : Str) (fs : List (Str × D))

/-- the content of an object that is still changed -/
inductive M where
  | lst (ds : List D) | ins (c : Str) (fs : List (Str × D))
structure Exn where
  cls : Str
  fs : List (Str × D)
/-- a slot's or a temporary's content: a value; an object of one's own; the borrowed first argument; a caught exception -/
inductive Sv where
  | val (d : D) | own (m : M) | bor (m : M) | exn (x : Exn)
abbrev PEnv := List (Option Sv)

structure Cfg where
  K : PySem.W.Frag
  mg : Str → Option Value
  S0 : Hp
  H0 : Hp
  R : Option Addr
  ex : Option (Addr × Value × Option Addr)

mutual
inductive Rp (K : PySem.W.Frag) (mg : Str → Option Value) (S : Hp) : D → V → Prop
  | non : Rp K mg S .non .non
  | bl (b : Bool) : Rp K mg S (.bl b) (.bl b)
  | int (i : Int) : Rp K mg S (.int i) (.int i)
  | str (x : Str) : Rp K mg S (.str x) (.str x)
  | tup {a : Addr} {ds : List D} {xs : List V} : SqT K S a xs → RpL K mg S ds xs → Rp K mg S (.tup ds) (.ref a)
  | lst {a : Addr} {ds : List D} {xs : List V} : S a = some (.lst xs) → RpL K mg S ds xs → Rp K mg S (.lst ds) (.ref a)
  | lsq {a : Addr} {ds : List D} {xs : List V} : SqL K S a xs → RpL K mg S ds xs → Rp K mg S (.lsq ds) (.ref a)
  | obj {a C dx : Addr} {c : Str} {fs : List (Str × D)} {gs : List (Str × V)} : mg c = some (.ref C) → S a = some (.ins C dx gs) → RpF K mg S fs gs → Rp K mg S (.obj c fs) (.ref a)
inductive RpL (K : PySem.W.Frag) (mg : Str → Option Value) (S : Hp) : List D → List V → Prop
  | nil : RpL K mg S [] []
  | cons {d : D} {v : V} {ds : List D} {vs : List V} : Rp K mg S d v → RpL K mg S ds vs → RpL K mg S (d :: ds) (v :: vs)
inductive RpF (K : PySem.W.Frag) (mg : Str → Option Value) (S : Hp) : List (Str × D) → List (Str × V) → Prop
  | nil : RpF K mg S [] []
  | cons {x : Str} {d : D} {v : V} {ds : List (Str × D)} {vs : List (Str × V)} : Rp K mg S d v → RpF K mg S ds vs → RpF K mg S ((x, d) :: ds) ((x, v) :: vs)
end

section
variable {K : PySem.W.Frag} {mg : Str → Option Value} {S S' H : Hp}
/-- S' knows all that S knows -/
def Le (S S' : Hp) : Prop := ∀ a o, S a = some o → S' a = some o
theorem Le.refl (S : Hp) : Le S S := fun _ _ h => h
theorem Le.trans {S1 S2 S3 : Hp} (a : Le S1 S2) (b : Le S2 S3) : Le S1 S3 := fun x o h => b x o (a x o h)
theorem Le.rd {a : Addr} {u : HO} (h : Le S S') (r : Rd S a u) : Rd S' a u := by
  rcases r with r | ⟨o, r⟩
  · exact .inl (h _ _ r)
  · exact .inr ⟨o, h _ _ r⟩
theorem Le.seq {a : Addr} {xs : List V} (h : Le S S') (r : SqL K S a xs) : SqL K S' a xs := r.elim (fun z => .inl (h.rd z)) .inr
theorem Le.tup {a : Addr} {xs : List V} (h : Le S S') (r : SqT K S a xs) : SqT K S' a xs := r.elim (fun z => .inl (h.rd z)) .inr
theorem Le.upd {p : Addr} {o : HO} (h : S p = none) : Le S (upd S p o) := fun a u e => by rw [upd_ne (ne_of_none e h)]; exact e
mutual
theorem Rp.mono (h : Le S S') : ∀ {d : D} {v : V}, Rp K mg S d v → Rp K mg S' d v
  | _, _, .non => .non
  | _, _, .bl b => .bl b
  | _, _, .int i => .int i
  | _, _, .str x => .str x
  | _, _, .tup s r => .tup (h.tup s) (RpL.mono h r)
  | _, _, .lst s r => .lst (h _ _ s) (RpL.mono h r)
  | _, _, .lsq s r => .lsq (h.seq s) (RpL.mono h r)
  | _, _, .obj m s r => .obj m (h _ _ s) (RpF.mono h r)
theorem RpL.mono (h : Le S S') : ∀ {ds : List D} {vs : List V}, RpL K mg S ds vs → RpL K mg S' ds vs
  | _, _, .nil => .nil
  | _, _, .cons r t => .cons (Rp.mono h r) (RpL.mono h t)
theorem RpF.mono (h : Le S S') : ∀ {ds : List (Str × D)} {vs : List (Str × V)}, RpF K mg S ds vs → RpF K mg S' ds vs
  | _, _, .nil => .nil
  | _, _, .cons r t => .cons (Rp.mono h r) (RpF.mono h t)
end
theorem RpL.length : ∀ {ds : List D} {vs : List V}, RpL K mg S ds vs → ds.length = vs.length
  | _, _, .nil => rfl
  | _, _, .cons _ t => by simp [RpL.length t]
theorem RpL.get : ∀ {ds : List D} {vs : List V} {i : Nat} {d : D}, RpL K mg S ds vs → ds[i]? = some d → ∃ v, vs[i]? = some v ∧ Rp K mg S d v
  | _, _, _, _, .nil, e => by simp at e
  | _, _, 0, _, .cons r _, e => by simp at e; subst e; exact ⟨_, rfl, r⟩
  | _, _, i + 1, _, .cons _ t, e => by
    obtain ⟨v, h1, h2⟩ := RpL.get (i := i) t (by simpa using e)
    exact ⟨v, by simpa using h1, h2⟩
theorem RpL.getV {ds : List D} {vs : List V} {i : Nat} {v : V} (r : RpL K mg S ds vs) (e : vs[i]? = some v) : ∃ d, ds[i]? = some d ∧ Rp K mg S d v := by
  cases q : ds[i]? with
  | none =>
    have h1 := List.getElem?_eq_none_iff.mp q
    have h2 := (List.getElem?_eq_some_iff.mp e).1
    rw [r.length] at h1
    omega
  | some d =>
    obtain ⟨v', h1, h2⟩ := r.get q
    rw [e] at h1; cases h1
    exact ⟨d, rfl, h2⟩
theorem RpL.append : ∀ {ds es : List D} {vs ws : List V}, RpL K mg S ds vs → RpL K mg S es ws → RpL K mg S (ds ++ es) (vs ++ ws)
  | _, _, _, _, .nil, s => s
  | _, _, _, _, .cons r t, s => .cons r (RpL.append t s)
theorem RpL.set {d : D} {v : V} (r : Rp K mg S d v) : ∀ {ds : List D} {vs : List V} (i : Nat), RpL K mg S ds vs → RpL K mg S (ds.set i d) (vs.set i v)
  | _, _, _, .nil => .nil
  | _, _, 0, .cons _ t => .cons r t
  | _, _, i + 1, .cons q t => .cons q (RpL.set r i t)
theorem RpL.take : ∀ {ds : List D} {vs : List V} (n : Nat), RpL K mg S ds vs → RpL K mg S (ds.take n) (vs.take n)
  | _, _, 0, _ => .nil
  | _, _, _ + 1, .nil => .nil
  | _, _, n + 1, .cons r t => .cons r (RpL.take n t)
theorem RpL.drop : ∀ {ds : List D} {vs : List V} (n : Nat), RpL K mg S ds vs → RpL K mg S (ds.drop n) (vs.drop n)
  | _, _, 0, r => r
  | _, _, _ + 1, .nil => .nil
  | _, _, n + 1, .cons _ t => RpL.drop n t
theorem RpL.eraseIdx : ∀ {ds : List D} {vs : List V} (n : Nat), RpL K mg S ds vs → RpL K mg S (ds.eraseIdx n) (vs.eraseIdx n)
  | _, _, _, .nil => .nil
  | _, _, 0, .cons _ t => t
  | _, _, n + 1, .cons r t => .cons r (RpL.eraseIdx n t)
theorem RpL.dropLast {ds : List D} {vs : List V} (r : RpL K mg S ds vs) : RpL K mg S ds.dropLast vs.dropLast := by
  rw [List.dropLast_eq_take, List.dropLast_eq_take, r.length]
  exact r.take _
theorem RpL.ints : ∀ {ns : List Int} {vs : List V}, RpL K mg S (ns.map D.int) vs → vs = ns.map V.int
  | [], _, .nil => rfl
  | _ :: _, _, .cons r t => by
    cases r
    rw [RpL.ints t]
    rfl
theorem RpL.of_ints : ∀ (ns : List Int), RpL K mg S (ns.map D.int) (ns.map V.int)
  | [] => .nil
  | n :: r => .cons (.int n) (RpL.of_ints r)
theorem RpL.strs : ∀ {ns : List Str} {vs : List V}, RpL K mg S (ns.map D.str) vs → vs = ns.map V.str
  | [], _, .nil => rfl
  | _ :: _, _, .cons r t => by
    cases r
    rw [RpL.strs t]
    rfl
theorem RpL.of_strs : ∀ (ns : List Str), RpL K mg S (ns.map D.str) (ns.map V.str)
  | [] => .nil
  | n :: r => .cons (.str n) (RpL.of_strs r)
theorem RpL.bls : ∀ {ns : List Bool} {vs : List V}, RpL K mg S (ns.map D.bl) vs → vs = ns.map V.bl
  | [], _, .nil => rfl
  | _ :: _, _, .cons r t => by
    cases r
    rw [RpL.bls t]
    rfl
theorem RpF.lookup {f : Str} {d : D} : ∀ {ds : List (Str × D)} {vs : List (Str × V)}, RpF K mg S ds vs → ds.lookup f = some d → ∃ v, vs.lookup f = some v ∧ Rp K mg S d v
  | _, _, .nil, e => by simp at e
  | _, _, .cons (x := x) r t, e => by
    rw [List.lookup_cons] at e ⊢
    cases q : (f == x) with
    | true =>
      rw [q] at e
      cases e
      exact ⟨_, rfl, r⟩
    | false =>
      rw [q] at e
      exact RpF.lookup t e
theorem RpF.lookup_none {f : Str} : ∀ {ds : List (Str × D)} {vs : List (Str × V)}, RpF K mg S ds vs → ds.lookup f = none → vs.lookup f = none
  | _, _, .nil, e => by simp
  | _, _, .cons (x := x) r t, e => by
    rw [List.lookup_cons] at e ⊢
    cases q : (f == x) with
    | true =>
      rw [q] at e
      cases e
    | false =>
      rw [q] at e
      exact RpF.lookup_none t e
theorem RpF.length : ∀ {ds : List (Str × D)} {vs : List (Str × V)}, RpF K mg S ds vs → ds.length = vs.length
  | _, _, .nil => rfl
  | _, _, .cons _ t => by simp [RpF.length t]
end

/-- what an object of one's own holds, at a -/
def MRep (C : Cfg) (S H : Hp) (a : Addr) : M → Prop
  | .lst ds => ∃ xs, H a = some (.lst xs) ∧ RpL C.K C.mg S ds xs
  | .ins c fs => ∃ cl dx gs, C.mg c = some (.ref cl) ∧ H a = some (.ins cl dx gs) ∧ RpF C.K C.mg S fs gs
def SvRep (C : Cfg) (S H : Hp) : Sv → V → Prop
  | .val d, v => Rp C.K C.mg S d v
  | .own m, v => ∃ a, v = .ref a ∧ C.H0 a = none ∧ S a = none ∧ MRep C S H a m
  | .bor m, v => ∃ a, v = .ref a ∧ C.R = some a ∧ S a = none ∧ MRep C S H a m
  | .exn x, v => ∃ a cl dd gs, C.ex = some (a, .ref cl, some dd) ∧ v = .ref a ∧ C.mg x.cls = some (.ref cl) ∧ S dd = some (.xd gs) ∧ RpF C.K C.mg S x.fs gs
/-- does the content hold the address for itself -/
def own1 (a : Addr) : Sv → V → Nat
  | .own _, .ref b => if b = a then 1 else 0
  | .bor _, .ref b => if b = a then 1 else 0
  | _, _ => 0
def ownT (a : Addr) : List Sv → List V → Nat
  | t :: ts, v :: vs => own1 a t v + ownT a ts vs
  | _, _ => 0
def ownO (a : Addr) : Option Sv → Option V → Nat
  | some t, some v => own1 a t v
  | _, _ => 0
def ownS (a : Addr) : PEnv → L2.St → Nat
  | t :: ts, v :: vs => ownO a t v + ownS a ts vs
  | _, _ => 0

structure RepAt (C : Cfg) (S : Hp) (ts : List Sv) (vs : List V) (e : PEnv) (σ : L2.St) (H : Hp) : Prop where
  sub : Le S H
  ext : Le C.S0 S
  new : ∀ a o, S a = some o → (∃ o', C.S0 a = some o') ∨ C.H0 a = none
  fr : ∀ a o, C.H0 a = some o → C.R ≠ some a → H a = some o
  rf : ∀ a, C.R = some a → ∃ o, H a = some o
  tmp : Paired (SvRep C S H) ts vs
  len : e.length = σ.length
  slot : ∀ (i : Nat) sv, e[i]? = some (some sv) → ∃ v, σ[i]? = some (some v) ∧ SvRep C S H sv v
  dist : ∀ a, ownT a ts vs + ownS a e σ ≤ 1
def Rep (C : Cfg) (ts : List Sv) (vs : List V) (e : PEnv) (σ : L2.St) (H : Hp) : Prop := ∃ S, RepAt C S ts vs e σ H
/-- the facts of a function's entry -/
structure Cfg.Ok (C : Cfg) : Prop where
  ref : ∀ a, C.R = some a → C.S0 a = none ∧ ∃ o, C.H0 a = some o
  sub : Le C.S0 C.H0

section
variable {C : Cfg} {S S' H H' : Hp} {ts : List Sv} {vs : List V} {e : PEnv} {σ : L2.St} {sv : Sv} {v : V} {a p : Addr} {o : HO} {d : D} {m : M} {i : Nat}
theorem MRep.mono (h : MRep C S H a m) (hs : Le S S') (e : H' a = H a) : MRep C S' H' a m := by
  cases m with
  | lst ds => obtain ⟨xs, h1, h2⟩ := h; exact ⟨xs, e.trans h1, h2.mono hs⟩
  | ins c fs => obtain ⟨cl, dx, gs, h0, h1, h2⟩ := h; exact ⟨cl, dx, gs, h0, e.trans h1, h2.mono hs⟩
theorem MRep.there (h : MRep C S H a m) : ∃ o, H a = some o := by
  cases m with
  | lst ds => obtain ⟨xs, h1, h2⟩ := h; exact ⟨_, h1⟩
  | ins c fs => obtain ⟨cl, dx, gs, h0, h1, h2⟩ := h; exact ⟨_, h1⟩
theorem SvRep.mono (h : SvRep C S H sv v) (hs : Le S S') (hk : ∀ a, own1 a sv v = 1 → H' a = H a ∧ S' a = none) : SvRep C S' H' sv v := by
  cases sv with
  | val d => exact Rp.mono hs h
  | own m =>
    obtain ⟨a, rfl, h0, h1, h2⟩ := h
    obtain ⟨k1, k2⟩ := hk a (by simp [own1])
    exact ⟨a, rfl, h0, k2, h2.mono hs k1⟩
  | bor m =>
    obtain ⟨a, rfl, h0, h1, h2⟩ := h
    obtain ⟨k1, k2⟩ := hk a (by simp [own1])
    exact ⟨a, rfl, h0, k2, h2.mono hs k1⟩
  | exn x =>
    obtain ⟨a, cl, dd, gs, h0, h1, h2, h3, h4⟩ := h
    exact ⟨a, cl, dd, gs, h0, h1, h2, hs _ _ h3, h4.mono hs⟩
theorem SvRep.there (h : SvRep C S H sv v) (q : own1 a sv v = 1) : (∃ o, H a = some o) ∧ S a = none ∧ (C.H0 a = none ∨ C.R = some a) := by
  cases sv with
  | val d => cases v <;> simp [own1] at q
  | own m =>
    obtain ⟨b, rfl, h0, h1, h2⟩ := h
    have e : b = a := by
      by_cases z : b = a
      · exact z
      · simp [own1, z] at q
    subst e
    exact ⟨h2.there, h1, .inl h0⟩
  | bor m =>
    obtain ⟨b, rfl, h0, h1, h2⟩ := h
    have e : b = a := by
      by_cases z : b = a
      · exact z
      · simp [own1, z] at q
    subst e
    exact ⟨h2.there, h1, .inr h0⟩
  | exn x => cases v <;> simp [own1] at q
theorem own1_le (a : Addr) (sv : Sv) (v : V) : own1 a sv v ≤ 1 := by
  cases sv <;> cases v <;> simp [own1] <;> split <;> omega
theorem ownT_mem : ∀ {ts : List Sv} {vs : List V}, Paired (SvRep C S H) ts vs → ownT a ts vs ≥ 1 → ∃ t v, SvRep C S H t v ∧ own1 a t v = 1
  | _, _, .nil, q => by simp [ownT] at q
  | _, _, .cons (a := t) (b := v) r h, q => by
    have := own1_le a t v
    by_cases z : own1 a t v = 1
    · exact ⟨_, _, r, z⟩
    · refine ownT_mem h ?_
      have q' : own1 a t v + ownT a _ _ ≥ 1 := q
      omega
theorem ownS_mem : ∀ {e : PEnv} {σ : L2.St}, ownS a e σ ≥ 1 → ∃ (i : Nat) (sv : Sv) (v : V), e[i]? = some (some sv) ∧ σ[i]? = some (some v) ∧ own1 a sv v = 1
  | [], _, q => by simp [ownS] at q
  | _ :: _, [], q => by simp [ownS] at q
  | x :: e, y :: σ, q => by
    have q' : ownO a x y + ownS a e σ ≥ 1 := q
    by_cases z : ownS a e σ ≥ 1
    · obtain ⟨i, sv, v, h1, h2, h3⟩ := ownS_mem z
      exact ⟨i + 1, sv, v, by simpa using h1, by simpa using h2, h3⟩
    · have z' : ownO a x y ≥ 1 := by omega
      cases x with
      | none => simp [ownO] at z'
      | some sv =>
        cases y with
        | none => simp [ownO] at z'
        | some v =>
          have z1 : own1 a sv v ≥ 1 := z'
          have := own1_le a sv v
          exact ⟨0, sv, v, rfl, rfl, by omega⟩
theorem ownS_ge : ∀ {e : PEnv} {σ : L2.St} {i : Nat} {sv : Sv} {v : V}, e[i]? = some (some sv) → σ[i]? = some (some v) → own1 a sv v ≤ ownS a e σ
  | [], _, _, _, _, h, _ => by simp at h
  | _ :: _, [], _, _, _, _, h => by simp at h
  | x :: e, y :: σ, 0, sv, v, h1, h2 => by
    simp at h1 h2; subst h1; subst h2
    show own1 a sv v ≤ ownO a (some sv) (some v) + ownS a e σ
    show own1 a sv v ≤ own1 a sv v + ownS a e σ
    omega
  | x :: e, y :: σ, i + 1, sv, v, h1, h2 => by
    have := ownS_ge (i := i) (show e[i]? = some (some sv) by simpa using h1) (show σ[i]? = some (some v) by simpa using h2)
    show own1 a sv v ≤ ownO a x y + ownS a e σ
    omega
theorem ownS_set (a : Addr) (sv : Option Sv) (v : Option V) : ∀ (e : PEnv) (σ : L2.St) (i : Nat), ownS a (e.set i sv) (σ.set i v) ≤ ownS a e σ + ownO a sv v
  | [], _, _ => by simp [ownS]
  | _ :: _, [], i => by cases i <;> simp [ownS]
  | x :: e, y :: σ, 0 => by
    show ownO a sv v + ownS a e σ ≤ ownO a x y + ownS a e σ + ownO a sv v
    omega
  | x :: e, y :: σ, i + 1 => by
    have := ownS_set a sv v e σ i
    show ownO a x y + ownS a (e.set i sv) (σ.set i v) ≤ ownO a x y + ownS a e σ + ownO a sv v
    omega
/-- the slots' side alone: the content at i leaves -/
theorem ownS_rm (a : Addr) (sv : Option Sv) : ∀ (e : PEnv) (σ : L2.St) (i : Nat) (s : Sv) (v : V), e[i]? = some (some s) → σ[i]? = some (some v) → ownS a (e.set i sv) σ + own1 a s v = ownS a e σ + ownO a sv (some v)
  | [], _, _, _, _, h, _ => by simp at h
  | _ :: _, [], _, _, _, _, h => by simp at h
  | x :: e, y :: σ, 0, s, v, h1, h2 => by
    simp at h1 h2; subst h1; subst h2
    show ownO a sv (some v) + ownS a e σ + own1 a s v = own1 a s v + ownS a e σ + ownO a sv (some v)
    omega
  | x :: e, y :: σ, i + 1, s, v, h1, h2 => by
    have := ownS_rm a sv e σ i s v (by simpa using h1) (by simpa using h2)
    show ownO a x y + ownS a (e.set i sv) σ + own1 a s v = ownO a x y + ownS a e σ + ownO a sv (some v)
    omega
theorem Paired.mapI {α β : Type} {F G : α → β → Prop} : ∀ {l : List α} {r : List β}, Paired F l r → (∀ x y, x ∈ l → F x y → G x y) → Paired G l r
  | _, _, .nil, _ => .nil
  | _, _, .cons h t, f => .cons (f _ _ List.mem_cons_self h) (Paired.mapI t fun x y m => f x y (List.mem_cons_of_mem _ m))
theorem tmp_mono : ∀ {ts : List Sv} {vs : List V}, Paired (SvRep C S H) ts vs → Le S S' → (∀ a, 1 ≤ ownT a ts vs → H' a = H a ∧ S' a = none) → Paired (SvRep C S' H') ts vs
  | _, _, .nil, _, _ => .nil
  | t :: ts, v :: vs, .cons r h, hs, hk => .cons (r.mono hs fun a q => hk a (by show 1 ≤ own1 a t v + ownT a ts vs; omega)) (tmp_mono h hs fun a q => hk a (by show 1 ≤ own1 a t v + ownT a ts vs; omega))
/-- all stays where it is; what the holders hold is untouched -/
theorem RepAt.mono (h : RepAt C S ts vs e σ H) (hs : Le S S') (sub : Le S' H') (new : ∀ a o, S' a = some o → (∃ o', C.S0 a = some o') ∨ C.H0 a = none) (fr : ∀ a o, C.H0 a = some o → C.R ≠ some a → H' a = some o)
    (rf : ∀ a, C.R = some a → ∃ o, H' a = some o) (hk : ∀ a, ownT a ts vs + ownS a e σ = 1 → H' a = H a ∧ S' a = none) : RepAt C S' ts vs e σ H' where
  sub := sub
  ext := h.ext.trans hs
  new := new
  fr := fr
  rf := rf
  tmp := tmp_mono h.tmp hs fun a q => hk a (by have := h.dist a; omega)
  len := h.len
  slot := fun i sv q => by
    obtain ⟨v, h1, h2⟩ := h.slot i sv q
    refine ⟨v, h1, h2.mono hs fun a z => hk a ?_⟩
    have := h.dist a
    have := ownS_ge (a := a) q h1
    omega
  dist := h.dist
theorem RepAt.held (h : RepAt C S ts vs e σ H) (q : ownT a ts vs + ownS a e σ = 1) : (∃ o, H a = some o) ∧ S a = none ∧ (C.H0 a = none ∨ C.R = some a) := by
  by_cases z : ownT a ts vs ≥ 1
  · obtain ⟨t, v, r, x⟩ := ownT_mem h.tmp z
    exact r.there x
  · obtain ⟨i, sv, v, h1, h2, h3⟩ := ownS_mem (a := a) (e := e) (σ := σ) (by omega)
    obtain ⟨v', h4, h5⟩ := h.slot i sv h1
    rw [h2] at h4; cases h4
    exact h5.there h3
theorem RepAt.freeS (h : RepAt C S ts vs e σ H) (hp : H p = none) : S p = none := by
  cases q : S p with
  | none => rfl
  | some u => rw [h.sub _ _ q] at hp; cases hp
theorem RepAt.free0 (h : RepAt C S ts vs e σ H) (hp : H p = none) : C.H0 p = none := by
  cases w : C.H0 p with
  | none => rfl
  | some x =>
    by_cases r : C.R = some p
    · obtain ⟨y, hy⟩ := h.rf p r
      rw [hp] at hy; cases hy
    · rw [h.fr _ _ w r] at hp; cases hp
/-- a new object that nobody will change -/
theorem RepAt.alloc (h : RepAt C S ts vs e σ H) (hp : H p = none) : RepAt C (upd S p o) ts vs e σ (upd H p o) := by
  have sp := h.freeS hp
  refine h.mono (Le.upd sp) (fun a u q => ?_) (fun a u q => ?_) (fun a u q r => ?_) (fun a r => ?_) (fun a q => ?_)
  · by_cases z : a = p
    · subst z; rw [upd_same] at q ⊢; exact q
    · rw [upd_ne z] at q ⊢; exact h.sub _ _ q
  · by_cases z : a = p
    · subst z; exact .inr (h.free0 hp)
    · rw [upd_ne z] at q; exact h.new _ _ q
  · rw [upd_ne (ne_of_none (h.fr _ _ q r) hp)]; exact h.fr _ _ q r
  · obtain ⟨x, hx⟩ := h.rf a r
    exact ⟨x, by rw [upd_ne (ne_of_none hx hp)]; exact hx⟩
  · obtain ⟨⟨x, hx⟩, hs, _⟩ := h.held q
    have z : a ≠ p := ne_of_none hx hp
    exact ⟨upd_ne z, by rw [upd_ne z]; exact hs⟩
/-- a new object, nobody's so far -/
theorem RepAt.alloc1 (h : RepAt C S ts vs e σ H) (hp : H p = none) : RepAt C S ts vs e σ (upd H p o) := by
  refine h.mono (Le.refl S) (fun a u q => ?_) h.new (fun a u q r => ?_) (fun a r => ?_) (fun a q => ?_)
  · rw [upd_ne (ne_of_none (h.sub _ _ q) hp)]; exact h.sub _ _ q
  · rw [upd_ne (ne_of_none (h.fr _ _ q r) hp)]; exact h.fr _ _ q r
  · obtain ⟨x, hx⟩ := h.rf a r
    exact ⟨x, by rw [upd_ne (ne_of_none hx hp)]; exact hx⟩
  · obtain ⟨⟨x, hx⟩, hs, _⟩ := h.held q
    exact ⟨upd_ne (ne_of_none hx hp), hs⟩
theorem RepAt.push (h : RepAt C S ts vs e σ H) (r : SvRep C S H sv v) (hd : ∀ a, own1 a sv v + ownT a ts vs + ownS a e σ ≤ 1) : RepAt C S (sv :: ts) (v :: vs) e σ H :=
  { h with tmp := .cons r h.tmp, dist := fun a => by have := hd a; show own1 a sv v + ownT a ts vs + ownS a e σ ≤ 1; exact this }
theorem own1_val (a : Addr) (d : D) (v : V) : own1 a (.val d) v = 0 := by cases v <;> rfl
theorem own1_exn (a : Addr) (x : Exn) (v : V) : own1 a (.exn x) v = 0 := by cases v <;> rfl
theorem RepAt.pushV (h : RepAt C S ts vs e σ H) (r : Rp C.K C.mg S d v) : RepAt C S (.val d :: ts) (v :: vs) e σ H := h.push r fun a => by rw [own1_val, Nat.zero_add]; exact h.dist a
theorem RepAt.pop {t : Sv} {v : V} (h : RepAt C S (t :: ts) (v :: vs) e σ H) : RepAt C S ts vs e σ H :=
  { h with tmp := (by cases h.tmp with | cons _ r => exact r), dist := fun a => by have := h.dist a; have : own1 a t v + ownT a ts vs + ownS a e σ ≤ 1 := this; omega }
theorem RepAt.top {t : Sv} {v : V} (h : RepAt C S (t :: ts) (v :: vs) e σ H) : SvRep C S H t v := by cases h.tmp with | cons r _ => exact r
theorem RepAt.topV {v : V} (h : RepAt C S (.val d :: ts) (v :: vs) e σ H) : Rp C.K C.mg S d v := h.top
/-- a new list of one's own -/
theorem RepAt.pushL {xs : List V} {ds : List D} (h : RepAt C S ts vs e σ H) (hp : H p = none) (r : RpL C.K C.mg S ds xs) : RepAt C S (.own (.lst ds) :: ts) (.ref p :: vs) e σ (upd H p (.lst xs)) := by
  refine (h.alloc1 hp).push ⟨p, rfl, h.free0 hp, h.freeS hp, xs, upd_same, r⟩ fun a => ?_
  show (if p = a then 1 else 0) + ownT a ts vs + ownS a e σ ≤ 1
  have := h.dist a
  by_cases z : p = a
  · subst z
    rw [if_pos rfl]
    by_cases w : ownT p ts vs + ownS p e σ = 1
    · obtain ⟨⟨x, hx⟩, _⟩ := h.held w
      rw [hp] at hx; cases hx
    · omega
  · rw [if_neg z]; omega
/-- a new tuple -/
theorem RepAt.pushT {xs : List V} {ds : List D} (h : RepAt C S ts vs e σ H) (hp : H p = none) (r : RpL C.K C.mg S ds xs) : RepAt C (upd S p (.tup xs)) (.val (.tup ds) :: ts) (.ref p :: vs) e σ (upd H p (.tup xs)) :=
  (h.alloc hp).pushV (.tup (SqT.of upd_same) (r.mono (Le.upd (h.freeS hp))))
/-- what content becomes when nobody changes it any more -/
def M.fz : M → D
  | .lst ds => .lst ds
  | .ins c fs => .obj c fs
/-- adding to S what was one's own at a -/
theorem freeze_le (hs : S a = none) : Le S (fun b => if b = a then H a else S b) := fun b u q => by
  have z : b ≠ a := fun z => by subst z; rw [hs] at q; cases q
  show (if b = a then H a else S b) = some u
  rw [if_neg z]; exact q
theorem MRep.fz (h : MRep C S H a m) (hs : S a = none) : Rp C.K C.mg (fun b => if b = a then H a else S b) m.fz (.ref a) := by
  have l : Le S (fun b => if b = a then H a else S b) := freeze_le hs
  cases m with
  | lst ds => obtain ⟨xs, h1, h2⟩ := h; exact .lst (by rw [if_pos rfl]; exact h1) (h2.mono l)
  | ins c fs => obtain ⟨cl, dx, gs, h0, h1, h2⟩ := h; exact .obj h0 (by rw [if_pos rfl]; exact h1) (h2.mono l)
theorem RepAt.frz_gen (h : RepAt C S ts vs e σ H) (hs : S a = none) (h0 : C.H0 a = none) (hk : ∀ b, ownT b ts vs + ownS b e σ = 1 → b ≠ a) : RepAt C (fun b => if b = a then H a else S b) ts vs e σ H := by
  refine h.mono (freeze_le hs) (fun b u q => ?_) (fun b u q => ?_) h.fr h.rf (fun b q => ⟨rfl, ?_⟩)
  · have q : (if b = a then H a else S b) = some u := q
    by_cases z : b = a
    · subst z; rw [if_pos rfl] at q; exact q
    · rw [if_neg z] at q; exact h.sub _ _ q
  · have q : (if b = a then H a else S b) = some u := q
    by_cases z : b = a
    · subst z; exact .inr h0
    · rw [if_neg z] at q; exact h.new _ _ q
  · show (if b = a then H a else S b) = none
    rw [if_neg (hk b q)]
    exact (h.held q).2.1
/-- the temporary that is one's own is given up -/
theorem RepAt.freezeT {v : V} (h : RepAt C S (.own m :: ts) (v :: vs) e σ H) : ∃ S', RepAt C S' (.val m.fz :: ts) (v :: vs) e σ H := by
  obtain ⟨a, rfl, h0, hs, r⟩ := h.top
  have hk : ∀ b, ownT b ts vs + ownS b e σ = 1 → b ≠ a := fun b q z => by
    subst z
    have d := h.dist b
    have d : own1 b (.own m) (.ref b) + ownT b ts vs + ownS b e σ ≤ 1 := d
    simp [own1] at d
    omega
  exact ⟨_, (h.pop.frz_gen hs h0 hk).pushV (r.fz hs)⟩
/-- the value that a content is, when it is used as a value -/
def Sv.fz : Sv → Option D
  | .val d => some d
  | .own m => some m.fz
  | _ => none
theorem Rep.fz {v : V} (h : Rep C (sv :: ts) (v :: vs) e σ H) (q : sv.fz = some d) : Rep C (.val d :: ts) (v :: vs) e σ H := by
  cases sv with
  | val d' => cases q; exact h
  | own m => cases q; obtain ⟨S, h⟩ := h; exact h.freezeT
  | bor m => cases q
  | exn x => cases q
/-- a slot's value is read -/
theorem RepAt.slotV (h : RepAt C S ts vs e σ H) (q : e[i]? = some (some (.val d))) : ∃ v, σ[i]? = some (some v) ∧ RepAt C S (.val d :: ts) (v :: vs) e σ H := by
  obtain ⟨v, h1, h2⟩ := h.slot i _ q
  exact ⟨v, h1, h.pushV h2⟩
theorem RepAt.set_slot {sv' : Sv} {v : V} (h : RepAt C S ts vs e σ H) (q : e[i]? = some (some sv)) (qv : σ[i]? = some (some v)) (r : SvRep C S H sv' v) (hd : ∀ a, own1 a sv' v ≤ own1 a sv v) : RepAt C S ts vs (e.set i (some sv')) σ H where
  sub := h.sub
  ext := h.ext
  new := h.new
  fr := h.fr
  rf := h.rf
  tmp := h.tmp
  len := by rw [List.length_set]; exact h.len
  slot := fun j s z => by
    rw [List.getElem?_set] at z
    by_cases w : i = j
    · subst w
      rw [if_pos rfl] at z
      split at z
      · cases z; exact ⟨v, qv, r⟩
      · cases z
    · rw [if_neg w] at z; exact h.slot j s z
  dist := fun a => by
    have h1 := ownS_rm a (some sv') e σ i sv v q qv
    have h2 := hd a
    have h3 := h.dist a
    have h1 : ownS a (e.set i (some sv')) σ + own1 a sv v = ownS a e σ + own1 a sv' v := h1
    omega
/-- a slot that holds an object of its own is read as a value: from now on nobody changes it -/
theorem RepAt.slotF (h : RepAt C S ts vs e σ H) (q : e[i]? = some (some (.own m))) : ∃ S' v, σ[i]? = some (some v) ∧ RepAt C S' (.val m.fz :: ts) (v :: vs) (e.set i (some (.val m.fz))) σ H := by
  obtain ⟨v, h1, a, rfl, h0, hs, r⟩ := h.slot i _ q
  have hk : ∀ b, ownT b ts vs + ownS b (e.set i none) σ = 1 → b ≠ a := fun b y z => by
    subst z
    have d := h.dist b
    have w := ownS_rm b none e σ i _ _ q h1
    have w : ownS b (e.set i none) σ + own1 b (.own m) (.ref b) = ownS b e σ + 0 := w
    simp [own1] at w
    omega
  have h' : RepAt C S ts vs (e.set i none) σ H :=
    { sub := h.sub, ext := h.ext, new := h.new, fr := h.fr, rf := h.rf, tmp := h.tmp, len := by rw [List.length_set]; exact h.len
      slot := fun j s z => by
        rw [List.getElem?_set] at z
        by_cases w : i = j
        · subst w
          rw [if_pos rfl] at z
          split at z <;> cases z
        · rw [if_neg w] at z; exact h.slot j s z
      dist := fun b => by
        have d := h.dist b
        have w := ownS_rm b none e σ i _ _ q h1
        have w : ownS b (e.set i none) σ + own1 b (.own m) (.ref a) = ownS b e σ + 0 := w
        omega }
  have h2 := h'.frz_gen hs h0 hk
  refine ⟨fun b => if b = a then H a else S b, _, h1, ?_⟩
  refine RepAt.pushV ?_ (r.fz hs)
  refine { sub := h2.sub, ext := h2.ext, new := h2.new, fr := h2.fr, rf := h2.rf, tmp := h2.tmp, len := by rw [List.length_set]; exact h.len, slot := fun j s z => ?_, dist := fun b => ?_ }
  · rw [List.getElem?_set] at z
    by_cases w : i = j
    · subst w
      rw [if_pos rfl] at z
      split at z
      · cases z; exact ⟨_, h1, r.fz hs⟩
      · cases z
    · rw [if_neg w] at z
      exact h2.slot j s (by rw [List.getElem?_set, if_neg w]; exact z)
  · have w := ownS_rm b (some (.val m.fz)) e σ i _ _ q h1
    have w : ownS b (e.set i (some (.val m.fz))) σ + own1 b (.own m) (.ref a) = ownS b e σ + own1 b (.val m.fz) (.ref a) := w
    rw [own1_val] at w
    have d := h.dist b
    omega
/-- a slot's content of its own is moved out -/
theorem RepAt.slotM (h : RepAt C S ts vs e σ H) (q : e[i]? = some (some (.own m))) : ∃ v, σ[i]? = some (some v) ∧ RepAt C S (.own m :: ts) (v :: vs) (e.set i none) σ H := by
  obtain ⟨v, h1, h2⟩ := h.slot i _ q
  refine ⟨v, h1, ?_⟩
  refine { sub := h.sub, ext := h.ext, new := h.new, fr := h.fr, rf := h.rf, tmp := .cons h2 h.tmp, len := by rw [List.length_set]; exact h.len, slot := fun j s z => ?_, dist := fun b => ?_ }
  · rw [List.getElem?_set] at z
    by_cases w : i = j
    · subst w
      rw [if_pos rfl] at z
      split at z <;> cases z
    · rw [if_neg w] at z; exact h.slot j s z
  · have d := h.dist b
    have w := ownS_rm b none e σ i _ _ q h1
    have w : ownS b (e.set i none) σ + own1 b (.own m) v = ownS b e σ + 0 := w
    show own1 b (.own m) v + ownT b ts vs + ownS b (e.set i none) σ ≤ 1
    omega
/-- the temporary is stored in a slot -/
theorem RepAt.store {v : V} (h : RepAt C S (sv :: ts) (v :: vs) e σ H) : RepAt C S ts vs (e.set i (some sv)) (σ.set i (some v)) H where
  sub := h.sub
  ext := h.ext
  new := h.new
  fr := h.fr
  rf := h.rf
  tmp := h.pop.tmp
  len := by rw [List.length_set, List.length_set]; exact h.len
  slot := fun j s z => by
    rw [List.getElem?_set] at z ⊢
    by_cases w : i = j
    · subst w
      rw [if_pos rfl] at z ⊢
      split at z
      · rename_i l
        cases z
        exact ⟨v, by rw [if_pos (by rw [← h.len]; exact l)], h.top⟩
      · cases z
    · rw [if_neg w] at z ⊢; exact h.slot j s z
  dist := fun a => by
    have h1 := ownS_set a (some sv) (some v) e σ i
    have h2 := h.dist a
    have h1 : ownS a (e.set i (some sv)) (σ.set i (some v)) ≤ ownS a e σ + own1 a sv v := h1
    have h2 : own1 a sv v + ownT a ts vs + ownS a e σ ≤ 1 := h2
    omega
/-- nothing is known of a slot any more -/
theorem RepAt.forget (h : RepAt C S ts vs e σ H) (x : Option V) : RepAt C S ts vs (e.set i none) (σ.set i x) H where
  sub := h.sub
  ext := h.ext
  new := h.new
  fr := h.fr
  rf := h.rf
  tmp := h.tmp
  len := by rw [List.length_set, List.length_set]; exact h.len
  slot := fun j s z => by
    rw [List.getElem?_set] at z ⊢
    by_cases w : i = j
    · subst w
      rw [if_pos rfl] at z
      split at z <;> cases z
    · rw [if_neg w] at z ⊢; exact h.slot j s z
  dist := fun a => by
    have h1 := ownS_set a none x e σ i
    have h2 := h.dist a
    have h1 : ownS a (e.set i none) (σ.set i x) ≤ ownS a e σ + 0 := h1
    omega
/-- the object that a slot holds for itself is changed -/
def isHeld : Sv → M → Prop
  | .own m, m' => m = m'
  | .bor m, m' => m = m'
  | _, _ => False
def reHold : Sv → M → Sv
  | .own _, m => .own m
  | .bor _, m => .bor m
  | s, _ => s
theorem RepAt.change (h : RepAt C S ts vs e σ H) (q : e[i]? = some (some sv)) (hm : isHeld sv m) : ∃ a, σ[i]? = some (some (.ref a)) ∧ MRep C S H a m ∧
    ∀ (o : HO) (m' : M), MRep C S (upd H a o) a m' → RepAt C S ts vs (e.set i (some (reHold sv m'))) σ (upd H a o) := by
  obtain ⟨v, h1, h2⟩ := h.slot i sv q
  obtain ⟨a, rfl, hs, hr, hw, ho⟩ : ∃ a, v = .ref a ∧ S a = none ∧ MRep C S H a m ∧ (C.H0 a = none ∨ C.R = some a) ∧ own1 a sv v = 1 := by
    cases sv with
    | val d => exact hm.elim
    | exn x => exact hm.elim
    | own m₀ => have e : m₀ = m := hm; subst e; obtain ⟨a, rfl, h0, hs, hr⟩ := h2; exact ⟨a, rfl, hs, hr, .inl h0, by simp [own1]⟩
    | bor m₀ => have e : m₀ = m := hm; subst e; obtain ⟨a, rfl, h0, hs, hr⟩ := h2; exact ⟨a, rfl, hs, hr, .inr h0, by simp [own1]⟩
  refine ⟨a, h1, hr, fun o m' hn => ?_⟩
  have da := h.dist a
  have ge := ownS_ge (a := a) q h1
  have ne_t : ∀ b, 1 ≤ ownT b ts vs → b ≠ a := fun b z y => by subst y; omega
  have keepS : ∀ {b u}, S b = some u → b ≠ a := fun {b u} z y => by subst y; rw [hs] at z; cases z
  refine { sub := fun b u z => by rw [upd_ne (keepS z)]; exact h.sub _ _ z, ext := h.ext, new := h.new, fr := fun b u z r => ?_, rf := fun b r => ?_, tmp := tmp_mono h.tmp (Le.refl S) fun b z => ?_, len := by rw [List.length_set]; exact h.len, slot := fun j s z => ?_, dist := fun b => ?_ }
  · have y : b ≠ a := fun y => by
      subst y
      rcases hw with w | w
      · rw [w] at z; cases z
      · exact r w
    rw [upd_ne y]; exact h.fr _ _ z r
  · by_cases y : b = a
    · subst y; exact ⟨o, upd_same⟩
    · rw [upd_ne y]; exact h.rf b r
  · refine ⟨upd_ne (ne_t b z), ?_⟩
    have := h.dist b
    exact (h.held (a := b) (by omega)).2.1
  · rw [List.getElem?_set] at z
    by_cases w : i = j
    · subst w
      rw [if_pos rfl] at z
      split at z
      · cases z
        refine ⟨_, h1, ?_⟩
        cases sv with
        | val d => exact hm.elim
        | exn x => exact hm.elim
        | own m₀ => obtain ⟨a', e', h0, hs', _⟩ := h2; cases e'; exact ⟨a, rfl, h0, hs, hn⟩
        | bor m₀ => obtain ⟨a', e', h0, hs', _⟩ := h2; cases e'; exact ⟨a, rfl, h0, hs, hn⟩
      · cases z
    · rw [if_neg w] at z
      obtain ⟨v', h3, h4⟩ := h.slot j s z
      refine ⟨v', h3, h4.mono (Le.refl S) fun b y => ?_⟩
      have hb := ownS_ge (a := b) z h3
      have db := h.dist b
      refine ⟨upd_ne fun y2 => ?_, (h.held (a := b) (by omega)).2.1⟩
      subst y2
      -- two slots hold the same object
      have w1 := ownS_rm b none e σ i sv _ q h1
      have w1 : ownS b (e.set i none) σ + own1 b sv (.ref b) = ownS b e σ + 0 := w1
      have w2 := ownS_ge (a := b) (e := e.set i none) (σ := σ) (i := j) (sv := s) (v := v') (by rw [List.getElem?_set, if_neg w]; exact z) h3
      omega
  · have w1 := ownS_rm b (some (reHold sv m')) e σ i sv _ q h1
    have w1 : ownS b (e.set i (some (reHold sv m'))) σ + own1 b sv (.ref a) = ownS b e σ + own1 b (reHold sv m') (.ref a) := w1
    have e1 : own1 b (reHold sv m') (.ref a) = own1 b sv (.ref a) := by cases sv <;> rfl
    have := h.dist b
    omega
end
end PL
set_option Elab.async false
set_option linter.all false
set_option maxRecDepth 100000
set_option maxHeartbeats 4000000
/-! PL2: what operators, comparisons, built-ins, subscripts do to plain data; each is sound over the abstract heap. -/
namespace PL
open PySem PySem.Spec PyProof.Rows L2

/-! ### data as the kit's data -/
mutual
def D.toPy : D → Option PyData
  | .non => some .none
  | .bl b => some (.bool b)
  | .int i => some (.int i)
  | .str x => some (.str x)
  | .tup ds => (D.toPyL ds).map .tuple
  | .lst ds => (D.toPyL ds).map .list
  | .lsq ds => (D.toPyL ds).map .list
  | .obj _ _ => none
def D.toPyL : List D → Option (List PyData)
  | [] => some []
  | d :: ds => match D.toPy d, D.toPyL ds with
    | some x, some xs => some (x :: xs)
    | _, _ => none
end
section
variable {K : PySem.W.Frag} {mg : Str → Option Value} {S S' H : Hp}
mutual
theorem Rp.dp : ∀ {d : D} {v : V} {p : PyData}, Rp K mg S d v → d.toPy = some p → Dp K S v p
  | _, _, _, .non, e => by cases e; exact .non
  | _, _, _, .bl b, e => by cases e; exact .bl b
  | _, _, _, .int i, e => by cases e; exact .int i
  | _, _, _, .str x, e => by cases e; exact .str x
  | _, _, p, .tup (ds := ds) s r, e => by
    cases q : D.toPyL ds with
    | none => simp [D.toPy, q] at e
    | some xs => simp [D.toPy, q] at e; subst e; exact .tup s (RpL.dp r q)
  | _, _, p, .lst (ds := ds) s r, e => by
    cases q : D.toPyL ds with
    | none => simp [D.toPy, q] at e
    | some xs => simp [D.toPy, q] at e; subst e; exact .lst (SqL.of s) (RpL.dp r q)
  | _, _, p, .lsq (ds := ds) s r, e => by
    cases q : D.toPyL ds with
    | none => simp [D.toPy, q] at e
    | some xs => simp [D.toPy, q] at e; subst e; exact .lst s (RpL.dp r q)
  | _, _, _, .obj _ _ _, e => by simp [D.toPy] at e
theorem RpL.dp : ∀ {ds : List D} {vs : List V} {ps : List PyData}, RpL K mg S ds vs → D.toPyL ds = some ps → DpAll K S vs ps
  | _, _, _, .nil, e => by cases e; exact .nil
  | _, _, _, .cons (d := d) (ds := ds) r t, e => by
    cases q1 : D.toPy d with
    | none => simp [D.toPyL, q1] at e
    | some x =>
      cases q2 : D.toPyL ds with
      | none => simp [D.toPyL, q1, q2] at e
      | some xs => simp [D.toPyL, q1, q2] at e; subst e; exact .cons (Rp.dp r q1) (RpL.dp t q2)
end
mutual
theorem Dp.up (h : Le S S') : ∀ {v : V} {p : PyData}, Dp K S v p → Dp K S' v p
  | _, _, .non => .non
  | _, _, .bl b => .bl b
  | _, _, .int i => .int i
  | _, _, .str x => .str x
  | _, _, .lst s r => .lst (h.seq s) (DpAll.up h r)
  | _, _, .tup s r => .tup (h.tup s) (DpAll.up h r)
theorem DpAll.up (h : Le S S') : ∀ {vs : List V} {ps : List PyData}, DpAll K S vs ps → DpAll K S' vs ps
  | _, _, .nil => .nil
  | _, _, .cons r t => .cons (Dp.up h r) (DpAll.up h t)
end
/-- what is read now: stable, or the list that a slot holds for itself -/
def Ra (K : PySem.W.Frag) (mg : Str → Option Value) (S H : Hp) (d : D) (v : V) : Prop := Rp K mg S d v ∨ ∃ (ds : List D) (a : Addr) (xs : List V), d = .lst ds ∧ v = .ref a ∧ H a = some (.lst xs) ∧ RpL K mg S ds xs
inductive RaL (K : PySem.W.Frag) (mg : Str → Option Value) (S H : Hp) : List D → List V → Prop
  | nil : RaL K mg S H [] []
  | cons {d : D} {v : V} {ds : List D} {vs : List V} : Ra K mg S H d v → RaL K mg S H ds vs → RaL K mg S H (d :: ds) (v :: vs)
theorem RpL.ra : ∀ {ds : List D} {vs : List V}, RpL K mg S ds vs → RaL K mg S H ds vs
  | _, _, .nil => .nil
  | _, _, .cons r t => .cons (.inl r) (RpL.ra t)
theorem Ra.lst {ds : List D} {v : V} (l : Le S H) (r : Ra K mg S H (.lst ds) v) : ∃ a xs, v = .ref a ∧ H a = some (.lst xs) ∧ RpL K mg S ds xs := by
  rcases r with r | ⟨ds', a, xs, e, rfl, h, q⟩
  · cases r with
    | lst s r => exact ⟨_, _, rfl, l _ _ s, r⟩
  · cases e; exact ⟨a, xs, rfl, h, q⟩
theorem Ra.tup {ds : List D} {v : V} (l : Le S H) (r : Ra K mg S H (.tup ds) v) : ∃ a xs, v = .ref a ∧ SqT K H a xs ∧ SqT K S a xs ∧ RpL K mg S ds xs := by
  rcases r with r | ⟨ds', a, xs, e, rfl, h, q⟩
  · cases r with
    | tup s r => exact ⟨_, _, rfl, l.tup s, s, r⟩
  · cases e
theorem Ra.lsq {ds : List D} {v : V} (l : Le S H) (r : Ra K mg S H (.lsq ds) v) : ∃ a xs, v = .ref a ∧ SqL K H a xs ∧ RpL K mg S ds xs := by
  rcases r with r | ⟨ds', a, xs, e, rfl, h, q⟩
  · cases r with
    | lsq s r => exact ⟨_, _, rfl, l.seq s, r⟩
  · cases e
theorem Ra.int {i : Int} {v : V} (r : Ra K mg S H (.int i) v) : v = .int i := by
  rcases r with r | ⟨ds', a, xs, e, _⟩
  · cases r; rfl
  · cases e
theorem Ra.bl {i : Bool} {v : V} (r : Ra K mg S H (.bl i) v) : v = .bl i := by
  rcases r with r | ⟨ds', a, xs, e, _⟩
  · cases r; rfl
  · cases e
theorem Ra.str {i : Str} {v : V} (r : Ra K mg S H (.str i) v) : v = .str i := by
  rcases r with r | ⟨ds', a, xs, e, _⟩
  · cases r; rfl
  · cases e
theorem Ra.non {v : V} (r : Ra K mg S H .non v) : v = .non := by
  rcases r with r | ⟨ds', a, xs, e, _⟩
  · cases r; rfl
  · cases e
theorem Ra.rp {d : D} {v : V} (r : Ra K mg S H d v) (n : ∀ ds, d ≠ .lst ds) : Rp K mg S d v := by
  rcases r with r | ⟨ds', a, xs, e, _⟩
  · exact r
  · exact absurd e (n _)
theorem Ra.dp {d : D} {v : V} {p : PyData} (l : Le S H) (r : Ra K mg S H d v) (e : d.toPy = some p) : Dp K H v p := by
  rcases r with r | ⟨ds', a, xs, rfl, rfl, h, q⟩
  · exact Dp.up l (r.dp e)
  · cases q1 : D.toPyL ds' with
    | none => simp [D.toPy, q1] at e
    | some xs => simp [D.toPy, q1] at e; subst e; exact .lst (SqL.of h) (DpAll.up l (q.dp q1))
/-- is it None -/
def D.isNon : D → Bool
  | .non => true
  | _ => false
theorem Ra.isNon {d : D} {v : V} (r : Ra K mg S H d v) : decide (v = .non) = d.isNon := by
  rcases r with r | ⟨ds', a, xs, rfl, rfl, h, q⟩
  · cases r <;> rfl
  · rfl
/-- what an operation gives -/
inductive Res (K : PySem.W.Frag) (mg : Str → Option Value) (S H : Hp) : Sv → V → Hp → Prop
  | same {d : D} {v : V} : Rp K mg S d v → Res K mg S H (.val d) v H
  | newL {p : Addr} {ds : List D} {xs : List V} : H p = none → RpL K mg S ds xs → Res K mg S H (.own (.lst ds)) (.ref p) (upd H p (.lst xs))
  | newT {p : Addr} {ds : List D} {xs : List V} : H p = none → RpL K mg S ds xs → Res K mg S H (.val (.tup ds)) (.ref p) (upd H p (.tup xs))
end
theorem RepAt.res {C : Cfg} {S H H' : Hp} {ts : List Sv} {vs : List V} {e : PEnv} {σ : L2.St} {z : Sv} {v : V} (h : RepAt C S ts vs e σ H) (r : Res C.K C.mg S H z v H') : ∃ S', RepAt C S' (z :: ts) (v :: vs) e σ H' := by
  cases r with
  | same r => exact ⟨S, h.pushV r⟩
  | newL hp r => exact ⟨S, h.pushL hp r⟩
  | newT hp r => exact ⟨_, h.pushT hp r⟩

/-! ### readings that come from an operation on data -/
abbrev F2 := D → D → (Sv → Prop) → Prop
abbrev FA := List D → (Sv → Prop) → Prop
def can2 (K : PySem.W.Frag) (mg : Str → Option Value) (f : F2) : R2 := fun x y H Q => ∃ (S : Hp) (a b : D) (P : Sv → Prop), Le S H ∧ Ra K mg S H a x ∧ Ra K mg S H b y ∧ f a b P ∧ ∀ z v H', Res K mg S H z v H' → P z → Q v H'
def canU (K : PySem.W.Frag) (mg : Str → Option Value) (f : D → (Sv → Prop) → Prop) : V → Hp → VK → Prop := fun x H Q => ∃ (S : Hp) (a : D) (P : Sv → Prop), Le S H ∧ Ra K mg S H a x ∧ f a P ∧ ∀ z v H', Res K mg S H z v H' → P z → Q v H'
def canA (K : PySem.W.Frag) (mg : Str → Option Value) (f : FA) : List V → Hp → VK → Prop := fun xs H Q => ∃ (S : Hp) (as : List D) (P : Sv → Prop), Le S H ∧ RaL K mg S H as xs ∧ f as P ∧ ∀ z v H', Res K mg S H z v H' → P z → Q v H'

def opB : Operator → F2
  | .Add, .int i, .int j, P => P (.val (.int (i + j)))
  | .Add, .str a, .str b, P => a.length + b.length ≤ sizeLine ∧ P (.val (.str (a ++ b)))
  | .Add, .tup a, .tup b, P => a.length + b.length ≤ sizeLine ∧ P (.val (.tup (a ++ b)))
  | .Add, .lst a, .lst b, P => a.length + b.length ≤ sizeLine ∧ P (.own (.lst (a ++ b)))
  | .Sub, .int i, .int j, P => P (.val (.int (i - j)))
  | .Mult, .int i, .int j, P => (CMul i j ∨ CMulW i j) ∧ P (.val (.int (i * j)))
  | .Mult, .lst a, .int k, P => (-(2 ^ 63) ≤ k ∧ k < 2 ^ 63 ∧ a.length * k.toNat ≤ sizeLine) ∧ P (.own (.lst (List.replicate k.toNat a).flatten))
  | .FloorDiv, .int i, .int j, P => CDivW i j ∧ P (.val (.int (i / j)))
  | .Mod, .int i, .int j, P => 0 < j ∧ P (.val (.int (i % j)))
  | .Pow, .int i, .int j, P => CPow i j ∧ P (.val (.int (i ^ j.toNat)))
  | .LShift, .int i, .int j, P => CPow i j ∧ P (.val (.int (i * 2 ^ j.toNat)))
  | .BitAnd, .int i, .int j, P => P (.val (.int (Builtin.bitAnd i j)))
  | _, _, _, _ => False

section
variable {K : PySem.W.Frag} {mg : Str → Option Value} {S H : Hp}
theorem RpL.flatten {a : List D} {xs : List V} (r : RpL K mg S a xs) : ∀ n, RpL K mg S (List.replicate n a).flatten (List.replicate n xs).flatten
  | 0 => .nil
  | n + 1 => by
    rw [List.replicate_succ, List.replicate_succ, List.flatten_cons, List.flatten_cons]
    exact r.append (RpL.flatten r n)
variable {X : Cx}
theorem int2 {f : Value → Value → Sem Value} {Cc : Int → Int → Prop} {g : Int → Int → Int} (ho : OpR X f (rI Cc fun i j => .int (g i j))) {pins : List (Addr × Obj)} {s : Shared} {σ : L2.St} {Q : VK} {i j : Int} {x y : V} {v u : Value} {P : Sv → Prop} (I : Inv X pins σ H s) (rx : RelV x v) (ry : RelV y u)
    (ex : x = .int i) (ey : y = .int j) (hc : Cc i j) (p : P (.val (.int (g i j)))) (k : ∀ z v H', Res K mg S H z v H' → P z → Q v H') : wpAny (model X.prog X.w) X.A (f v u) (EP X pins σ Q) X.xe s :=
  ho pins s σ H x y v u Q I rx ry ⟨i, j, ex, ey, hc, k _ _ _ (.same (.int _)) p⟩
theorem int20 {f : Value → Value → Sem Value} {g : Int → Int → Int} (ho : OpR X f (rI0 fun i j => .int (g i j))) {pins : List (Addr × Obj)} {s : Shared} {σ : L2.St} {Q : VK} {i j : Int} {x y : V} {v u : Value} {P : Sv → Prop} (I : Inv X pins σ H s) (rx : RelV x v) (ry : RelV y u)
    (ex : x = .int i) (ey : y = .int j) (p : P (.val (.int (g i j)))) (k : ∀ z v H', Res K mg S H z v H' → P z → Q v H') : wpAny (model X.prog X.w) X.A (f v u) (EP X pins σ Q) X.xe s :=
  ho pins s σ H x y v u Q I rx ry ⟨i, j, ex, ey, k _ _ _ (.same (.int _)) p⟩
theorem op_can (op : Operator) : OpR X (binaryOp op) (can2 X.K mg (opB op)) := by
  intro pins s σ H x y v u Q I rx ry h
  obtain ⟨S, a, b, P, l, ra, rb, hf, k⟩ := h
  unfold opB at hf
  split at hf
  · exact int20 op_add I rx ry ra.int rb.int hf k
  · obtain ⟨z, hf⟩ := hf
    exact op_add_str pins s σ H x y v u Q I rx ry ⟨_, _, ra.str, rb.str, z, k _ _ _ (.same (.str _)) hf⟩
  · obtain ⟨z, hf⟩ := hf
    rename_i a b
    obtain ⟨p, xs, rfl, ha, ha', r1⟩ := ra.tup l
    obtain ⟨q, ys, rfl, hb, hb', r2⟩ := rb.tup l
    refine op_catA pins s σ H _ _ v u Q I rx ry ⟨p, q, xs, ys, rfl, rfl, ha, hb, by rw [← r1.length, ← r2.length]; exact z, fun e => ?_, fun _ e => ?_, fun _ _ t ht => ?_⟩
    · subst e; cases r1
      exact k _ _ _ (.same (.tup hb' r2)) hf
    · subst e; cases r2
      rw [List.append_nil] at hf
      exact k _ _ _ (.same (.tup ha' r1)) hf
    · exact k _ _ _ (.newT ht (r1.append r2)) hf
  · obtain ⟨z, hf⟩ := hf
    obtain ⟨p, xs, rfl, ha, r1⟩ := ra.lst l
    obtain ⟨q, ys, rfl, hb, r2⟩ := rb.lst l
    exact op_cat pins s σ H _ _ v u Q I rx ry ⟨p, q, xs, ys, rfl, rfl, ha, hb, by rw [← r1.length, ← r2.length]; exact z, fun t ht => k _ _ _ (.newL ht (r1.append r2)) hf⟩
  · exact int20 op_sub I rx ry ra.int rb.int hf k
  · obtain ⟨z, hf⟩ := hf
    rcases z with z | z
    · exact int2 op_mul I rx ry ra.int rb.int z hf k
    · exact int2 op_mulW I rx ry ra.int rb.int z hf k
  · obtain ⟨z, hf⟩ := hf
    obtain ⟨p, xs, rfl, ha, r1⟩ := ra.lst l
    exact op_rep pins s σ H _ _ v u Q I rx ry ⟨p, _, xs, rfl, rb.int, ha, z.1, z.2.1, by rw [← r1.length]; exact z.2.2, fun t ht => k _ _ _ (.newL ht (r1.flatten _)) hf⟩
  · exact int2 op_fdivW I rx ry ra.int rb.int hf.1 hf.2 k
  · exact int2 op_mod I rx ry ra.int rb.int hf.1 hf.2 k
  · exact int2 op_pow I rx ry ra.int rb.int hf.1 hf.2 k
  · exact int2 op_shl I rx ry ra.int rb.int hf.1 hf.2 k
  · exact int20 op_and I rx ry ra.int rb.int hf k
  · exact hf.elim
end

/-! ### one place -/
def unB : UnaryOp → D → (Sv → Prop) → Prop
  | .USub, .int i, P => P (.val (.int (-i)))
  | _, _, _ => False
theorem un_can {X : Cx} {mg : Str → Option Value} (op : UnaryOp) : UnR X (unaryOp op) (canU X.K mg (unB op)) := by
  intro pins s σ H x v Q I rx h
  obtain ⟨S, a, P, l, ra, hf, k⟩ := h
  unfold unB at hf
  split at hf
  · exact un_neg pins s σ H x v Q I rx ⟨_, ra.int, k _ _ _ (.same (.int _)) hf⟩
  · exact hf.elim

/-! ### comparisons -/
/-- == of data -/
def eqD (a b : D) : Option Bool := match a, b with
  | .int i, .int j => some (decide (i = j))
  | .str i, .str j => some (decide (i = j))
  | a, b => match a.toPy, b.toPy with
    | some p, some q => if SeqAt.shaped p = true ∧ SeqAt.shaped q = true then some (PyData.eqv p q) else none
    | _, _ => none
/-- flat values: none, bools, ints, texts -/
def D.flat : D → Bool
  | .non | .bl _ | .int _ | .str _ => true
  | _ => false
def D.toV : D → V
  | .non => .non | .bl b => .bl b | .int i => .int i | .str x => .str x | _ => .non
def cmpB : CmpOp → F2
  | .Eq, a, b, P => ∃ k, eqD a b = some k ∧ P (.val (.bl k))
  | .NotEq, a, b, P => ∃ k, eqD a b = some k ∧ P (.val (.bl (!k)))
  | .Lt, .int i, .int j, P => P (.val (.bl (decide (i < j))))
  | .LtE, .int i, .int j, P => P (.val (.bl (decide (i ≤ j))))
  | .Gt, .int i, .int j, P => P (.val (.bl (decide (j < i))))
  | .GtE, .int i, .int j, P => P (.val (.bl (decide (j ≤ i))))
  | .In, a, .tup bs, P => a.flat = true ∧ bs.all D.flat = true ∧ P (.val (.bl (inV a.toV (bs.map D.toV))))
  | .In, a, .lst bs, P => a.flat = true ∧ bs.all D.flat = true ∧ P (.val (.bl (inV a.toV (bs.map D.toV))))
  | .NotIn, a, .tup bs, P => a.flat = true ∧ bs.all D.flat = true ∧ P (.val (.bl (!inV a.toV (bs.map D.toV))))
  | .NotIn, a, .lst bs, P => a.flat = true ∧ bs.all D.flat = true ∧ P (.val (.bl (!inV a.toV (bs.map D.toV))))
  | _, _, _, _ => False
section
variable {K : PySem.W.Frag} {mg : Str → Option Value} {S H : Hp} {X : Cx}
theorem Ra.flat {d : D} {v : V} (r : Ra K mg S H d v) (h : d.flat = true) : v = d.toV ∧ flatV v = true := by
  cases d with
  | non => rw [r.non]; exact ⟨rfl, rfl⟩
  | bl b => rw [r.bl]; exact ⟨rfl, rfl⟩
  | int b => rw [r.int]; exact ⟨rfl, rfl⟩
  | str b => rw [r.str]; exact ⟨rfl, rfl⟩
  | _ => cases h
theorem RpL.flat : ∀ {ds : List D} {vs : List V}, RpL K mg S ds vs → ds.all D.flat = true → vs = ds.map D.toV ∧ vs.all flatV = true
  | _, _, .nil, _ => ⟨rfl, rfl⟩
  | _, _, .cons (d := d) r t, h => by
    rw [List.all_cons, Bool.and_eq_true] at h
    obtain ⟨h1, h2⟩ := Ra.flat (H := S) (.inl r) h.1
    obtain ⟨h3, h4⟩ := RpL.flat t h.2
    refine ⟨by rw [List.map_cons, ← h3, ← h1], ?_⟩
    rw [List.all_cons, h2, h4]; rfl
theorem intB {f : Value → Value → Sem Value} {g : Int → Int → Bool} (ho : OpR X f (rI0 fun i j => .bl (g i j))) {pins : List (Addr × Obj)} {s : Shared} {σ : L2.St} {Q : VK} {i j : Int} {x y : V} {v u : Value} {P : Sv → Prop} (I : Inv X pins σ H s) (rx : RelV x v) (ry : RelV y u)
    (ex : x = .int i) (ey : y = .int j) (p : P (.val (.bl (g i j)))) (k : ∀ z v H', Res K mg S H z v H' → P z → Q v H') : wpAny (model X.prog X.w) X.A (f v u) (EP X pins σ Q) X.xe s :=
  ho pins s σ H x y v u Q I rx ry ⟨i, j, ex, ey, k _ _ _ (.same (.bl _)) p⟩
theorem eq_gen (neg : Bool) (hu : X.A.units + 64 < cLine) {pins : List (Addr × Obj)} {s : Shared} {σ : L2.St} {Q : VK} {x y : V} {v u : Value} {a b : D} {r : Bool} (I : Inv X pins σ H s) (rx : RelV x v) (ry : RelV y u) (l : Le S H) (ra : Ra X.K mg S H a x) (rb : Ra X.K mg S H b y) (he : eqD a b = some r) (q : Q (.bl (if neg then !r else r)) H) :
    wpAny (model X.prog X.w) X.A (compareOp (if neg then .NotEq else .Eq) v u) (EP X pins σ Q) X.xe s := by
  unfold eqD at he
  split at he
  · cases he
    have e1 := ra.int; have e2 := rb.int
    subst e1; subst e2
    cases neg
    · exact op_eq pins s σ H _ _ v u Q I rx ry ⟨rfl, by simpa [V.int.injEq] using q⟩
    · exact op_ne pins s σ H _ _ v u Q I rx ry ⟨rfl, by simpa [V.int.injEq] using q⟩
  · cases he
    have e1 := ra.str; have e2 := rb.str
    subst e1; subst e2
    cases neg
    · exact op_eq pins s σ H _ _ v u Q I rx ry ⟨rfl, by simpa [V.str.injEq] using q⟩
    · exact op_ne pins s σ H _ _ v u Q I rx ry ⟨rfl, by simpa [V.str.injEq] using q⟩
  · split at he
    · rename_i p p' e1 e2
      split at he
      · rename_i sh
        cases he
        cases neg
        · exact op_eqD hu pins s σ H _ _ v u Q I rx ry ⟨p, p', ra.dp l e1, rb.dp l e2, sh.1, sh.2, q⟩
        · exact op_neD hu pins s σ H _ _ v u Q I rx ry ⟨p, p', ra.dp l e1, rb.dp l e2, sh.1, sh.2, q⟩
      · cases he
    · cases he
theorem cmp_can (op : CmpOp) (hu : X.A.units + 64 < cLine) : OpR X (compareOp op) (can2 X.K mg (cmpB op)) := by
  intro pins s σ H x y v u Q I rx ry h
  obtain ⟨S, a, b, P, l, ra, rb, hf, k⟩ := h
  unfold cmpB at hf
  split at hf
  · obtain ⟨r, e, p⟩ := hf
    exact eq_gen false hu I rx ry l ra rb e (k _ _ _ (.same (.bl _)) p)
  · obtain ⟨r, e, p⟩ := hf
    exact eq_gen true hu I rx ry l ra rb e (k _ _ _ (.same (.bl _)) p)
  · exact intB op_lt I rx ry ra.int rb.int hf k
  · exact intB op_le I rx ry ra.int rb.int hf k
  · exact intB op_gt I rx ry ra.int rb.int hf k
  · exact intB op_ge I rx ry ra.int rb.int hf k
  · obtain ⟨h1, h2, p⟩ := hf
    obtain ⟨e1, e2⟩ := ra.flat h1
    obtain ⟨q, ys, rfl, hb, _, r2⟩ := rb.tup l
    obtain ⟨e3, e4⟩ := r2.flat h2
    refine op_in_seq pins s σ H _ _ v u Q I rx ry ⟨q, ys, rfl, .inr hb, e2, e4, ?_⟩
    rw [e1, e3]
    exact k _ _ _ (.same (.bl _)) p
  · obtain ⟨h1, h2, p⟩ := hf
    obtain ⟨e1, e2⟩ := ra.flat h1
    obtain ⟨q, ys, rfl, hb, r2⟩ := rb.lst l
    obtain ⟨e3, e4⟩ := r2.flat h2
    refine op_in_seq pins s σ H _ _ v u Q I rx ry ⟨q, ys, rfl, .inl (SqL.of hb), e2, e4, ?_⟩
    rw [e1, e3]
    exact k _ _ _ (.same (.bl _)) p
  · obtain ⟨h1, h2, p⟩ := hf
    obtain ⟨e1, e2⟩ := ra.flat h1
    obtain ⟨q, ys, rfl, hb, _, r2⟩ := rb.tup l
    obtain ⟨e3, e4⟩ := r2.flat h2
    refine op_notIn_seq pins s σ H _ _ v u Q I rx ry ⟨q, ys, rfl, .inr hb, e2, e4, ?_⟩
    rw [e1, e3]
    exact k _ _ _ (.same (.bl _)) p
  · obtain ⟨h1, h2, p⟩ := hf
    obtain ⟨e1, e2⟩ := ra.flat h1
    obtain ⟨q, ys, rfl, hb, r2⟩ := rb.lst l
    obtain ⟨e3, e4⟩ := r2.flat h2
    refine op_notIn_seq pins s σ H _ _ v u Q I rx ry ⟨q, ys, rfl, .inl (SqL.of hb), e2, e4, ?_⟩
    rw [e1, e3]
    exact k _ _ _ (.same (.bl _)) p
  · exact hf.elim
end

/-! ### items and slices -/
def itemB : D → D → (Sv → Prop) → Prop
  | .tup ds, .int i, P => ∃ d, atI ds i = some d ∧ P (.val d)
  | .lst ds, .int i, P => ∃ d, atI ds i = some d ∧ P (.val d)
  | .lsq ds, .int i, P => ∃ d, atI ds i = some d ∧ P (.val d)
  | .str z, .int i, P => z.length ≤ sizeLine ∧ ∃ c, atI z.cps.toList i = some c ∧ P (.val (.str ⟨#[c]⟩))
  | _, _, _ => False
section
variable {K : PySem.W.Frag} {mg : Str → Option Value} {S H : Hp} {X : Cx}
theorem RpL.atI {ds : List D} {vs : List V} {i : Int} {d : D} (r : RpL K mg S ds vs) (h : L2.atI ds i = some d) : ∃ v, L2.atI vs i = some v ∧ Rp K mg S d v := by
  unfold L2.atI at h ⊢
  rw [← r.length]
  cases e : ixN ds.length i with
  | none => rw [e] at h; cases h
  | some j =>
    rw [e] at h
    exact r.get h
theorem ix_can : IxR X (can2 X.K mg itemB) := by
  intro value slice pins s σ H x y v u Q I rx ry h hs
  obtain ⟨S, a, b, P, l, ra, rb, hf, k⟩ := h
  unfold itemB at hf
  split at hf
  · obtain ⟨d, e, p⟩ := hf
    obtain ⟨q, ys, rfl, hb, _, r2⟩ := ra.tup l
    obtain ⟨w, e2, r⟩ := r2.atI e
    exact ix_tup value slice pins s σ H _ _ v u Q I rx ry ⟨q, ys, _, w, rfl, rb.int, hb, e2, k _ _ _ (.same r) p⟩ hs
  · obtain ⟨d, e, p⟩ := hf
    obtain ⟨q, ys, rfl, hb, r2⟩ := ra.lst l
    obtain ⟨w, e2, r⟩ := r2.atI e
    exact ix_list value slice pins s σ H _ _ v u Q I rx ry ⟨q, ys, _, w, rfl, rb.int, SqL.of hb, e2, k _ _ _ (.same r) p⟩ hs
  · obtain ⟨d, e, p⟩ := hf
    obtain ⟨q, ys, rfl, hb, r2⟩ := ra.lsq l
    obtain ⟨w, e2, r⟩ := r2.atI e
    exact ix_list value slice pins s σ H _ _ v u Q I rx ry ⟨q, ys, _, w, rfl, rb.int, hb, e2, k _ _ _ (.same r) p⟩ hs
  · obtain ⟨z, c, e, p⟩ := hf
    exact ix_str value slice pins s σ H _ _ v u Q I rx ry ⟨_, _, c, ra.str, rb.int, z, e, k _ _ _ (.same (.str _)) p⟩ hs
  · exact hf.elim
def cutD (xs : List D) (lo hi : Option Int) : List D := (xs.drop (HT.sIx xs.length 0 lo)).take (HT.sIx xs.length xs.length hi - HT.sIx xs.length 0 lo)
theorem RpL.cut {ds : List D} {vs : List V} (r : RpL K mg S ds vs) (lo hi : Option Int) : RpL K mg S (cutD ds lo hi) (cutV vs lo hi) := by
  unfold cutD cutV
  rw [r.length]
  exact (r.drop _).take _
def sliceB : D → Option Int → Option Int → (Sv → Prop) → Prop
  | .tup ds, lo, hi, P => P (.val (.tup (cutD ds lo hi)))
  | .lst ds, lo, hi, P => P (.own (.lst (cutD ds lo hi)))
  | .lsq ds, lo, hi, P => P (.own (.lst (cutD ds lo hi)))
  | .str z, lo, hi, P => z.length ≤ sizeLine ∧ P (.val (.str (cutS z lo hi)))
  | _, _, _, _ => False
def canSl (K : PySem.W.Frag) (mg : Str → Option Value) : V → Option Int → Option Int → Hp → VK → Prop := fun x lo hi H Q => ∃ (S : Hp) (a : D) (P : Sv → Prop), Le S H ∧ Ra K mg S H a x ∧ sliceB a lo hi P ∧ ∀ z v H', Res K mg S H z v H' → P z → Q v H'
theorem cut_whole {ds : List D} {lo hi : Option Int} (h : HT.sIx ds.length 0 lo = 0 ∧ HT.sIx ds.length ds.length hi = ds.length) : cutD ds lo hi = ds := by
  unfold cutD
  rw [h.1, h.2, List.drop_zero, Nat.sub_zero, List.take_length]
theorem sl_can : SlR X (canSl X.K mg) := by
  intro pins s σ H x v vl vu lo hi sl Q I rx hs pl pu h
  obtain ⟨S, a, P, l, ra, hf, k⟩ := h
  unfold sliceB at hf
  split at hf
  · obtain ⟨q, ys, rfl, hb, hb', r2⟩ := ra.tup l
    refine sl_tupA pins s σ H _ v vl vu lo hi sl Q I rx hs pl pu ⟨q, ys, rfl, hb, fun e => ?_, fun _ p hp => ?_⟩
    · rw [← r2.length] at e
      rw [cut_whole e] at hf
      exact k _ _ _ (.same (.tup hb' r2)) hf
    · exact k _ _ _ (.newT hp (r2.cut lo hi)) hf
  · obtain ⟨q, ys, rfl, hb, r2⟩ := ra.lst l
    exact sl_list pins s σ H _ v vl vu lo hi sl Q I rx hs pl pu ⟨q, ys, rfl, SqL.of hb, fun p hp => k _ _ _ (.newL hp (r2.cut lo hi)) hf⟩
  · obtain ⟨q, ys, rfl, hb, r2⟩ := ra.lsq l
    exact sl_list pins s σ H _ v vl vu lo hi sl Q I rx hs pl pu ⟨q, ys, rfl, hb, fun p hp => k _ _ _ (.newL hp (r2.cut lo hi)) hf⟩
  · exact sl_str pins s σ H _ v vl vu lo hi sl Q I rx hs pl pu ⟨_, ra.str, hf.1, k _ _ _ (.same (.str _)) hf.2⟩
  · exact hf.elim
end

/-! ### built-ins -/
inductive Blt where
  | len | abs | int_ | bool_ | str_ | min_ | max_ | sum_ | all_ | any_ | list_ | tuple_
  deriving DecidableEq
def Blt.val : Blt → Value
  | .len => .builtin "len" | .abs => .builtin "abs" | .int_ => .type "int" | .bool_ => .type "bool" | .str_ => .type "str" | .min_ => .builtin "min" | .max_ => .builtin "max"
  | .sum_ => .builtin "sum" | .all_ => .builtin "all" | .any_ => .builtin "any" | .list_ => .type "list" | .tuple_ => .type "tuple"
/-- a list's or a tuple's items -/
def D.items : D → Option (List D)
  | .tup ds => some ds
  | .lst ds => some ds
  | .lsq ds => some ds
  | _ => none
def bltB : Blt → FA
  | .len, [.tup ds], P => P (.val (.int ds.length))
  | .len, [.lst ds], P => P (.val (.int ds.length))
  | .len, [.lsq ds], P => P (.val (.int ds.length))
  | .len, [.str z], P => z.length ≤ sizeLine ∧ P (.val (.int z.length))
  | .abs, [.int i], P => P (.val (.int (if i < 0 then -i else i)))
  | .int_, [.int i], P => P (.val (.int i))
  | .int_, [.bl k], P => P (.val (.int (if k = true then 1 else 0)))
  | .int_, [.str z], P => ∃ n, PySem.intText? z = some n ∧ z.length ≤ 640 ∧ P (.val (.int n))
  | .bool_, [.bl k], P => P (.val (.bl k))
  | .str_, [.int i], P => i.natAbs.log2 < 1920 ∧ P (.val (.str (Str.ofString (toString i))))
  | .min_, [.int i, .int j], P => P (.val (.int (if j < i then j else i)))
  | .min_, [.int i, .int j, .int k], P => P (.val (.int (if k < (if j < i then j else i) then k else (if j < i then j else i))))
  | .max_, [.int i, .int j], P => P (.val (.int (if j > i then j else i)))
  | .min_, [.lst ds], P => ∃ ns : List Int, ds = ns.map D.int ∧ 0 < ns.length ∧ ∀ m, m ∈ ns → (∀ y, y ∈ ns → m ≤ y) → P (.val (.int m))
  | .max_, [.lst ds], P => (∃ ns : List Int, ds = ns.map D.int ∧ 0 < ns.length ∧ ∀ m, m ∈ ns → (∀ y, y ∈ ns → y ≤ m) → P (.val (.int m))) ∨
      ∃ x xs, D.toPyL ds = some (x :: xs) ∧ PySem.W.AlikeAll (x :: xs) ∧ PyData.canLayAll0 (x :: xs) = true ∧ PyData.depthAll (x :: xs) ≤ 60 ∧ ∀ (i : Nat) d, ds[i]? = some d → d.toPy = some (PySem.W.maxD x xs) → P (.val d)
  | .sum_, [.lst ds], P => ∃ ns : List Int, ds = ns.map D.int ∧ P (.val (.int ns.sum))
  | .all_, [.lst ds], P => ∃ ns : List Bool, ds = ns.map D.bl ∧ P (.val (.bl (ns.all id)))
  | .any_, [.lst ds], P => ∃ ns : List Bool, ds = ns.map D.bl ∧ P (.val (.bl (ns.any id)))
  | .list_, [d], P => ∃ ds, d.items = some ds ∧ P (.own (.lst ds))
  | .tuple_, [.tup ds], P => P (.val (.tup ds))
  | .tuple_, [.lst ds], P => P (.val (.tup ds))
  | .tuple_, [.lsq ds], P => P (.val (.tup ds))
  | _, _, _ => False
section
variable {K : PySem.W.Frag} {mg : Str → Option Value} {S H : Hp} {X : Cx}
theorem RaL.one {d : D} {xs : List V} (r : RaL K mg S H [d] xs) : ∃ x, xs = [x] ∧ Ra K mg S H d x := by
  cases r with | cons r t => cases t; exact ⟨_, rfl, r⟩
theorem RaL.two {d d' : D} {xs : List V} (r : RaL K mg S H [d, d'] xs) : ∃ x y, xs = [x, y] ∧ Ra K mg S H d x ∧ Ra K mg S H d' y := by
  cases r with | cons r t => cases t with | cons r' t => cases t; exact ⟨_, _, rfl, r, r'⟩
theorem RaL.three {d d' d2 : D} {xs : List V} (r : RaL K mg S H [d, d', d2] xs) : ∃ x y z, xs = [x, y, z] ∧ Ra K mg S H d x ∧ Ra K mg S H d' y ∧ Ra K mg S H d2 z := by
  cases r with | cons r t => cases t with | cons r' t => cases t with | cons r2 t => cases t; exact ⟨_, _, _, rfl, r, r', r2⟩
theorem nuMin2_int {i j : Int} : nuMin2 (.int i) (.int j) = some (.int (if j < i then j else i)) := by
  unfold nuMin2 nuLt
  by_cases h : j < i
  · rw [if_pos h]
    simp [nuCB, h]
  · rw [if_neg h]
    simp [nuCB, h]
theorem nuMin3_int {i j k : Int} : nuMin3 (.int i) (.int j) (.int k) = some (.int (if k < (if j < i then j else i) then k else (if j < i then j else i))) := by
  unfold nuMin3
  rw [nuMin2_int]
  exact nuMin2_int
theorem toPyL_get : ∀ {ds : List D} {ps : List PyData} {i : Nat} {d : D}, D.toPyL ds = some ps → ds[i]? = some d → ∃ p, d.toPy = some p ∧ ps[i]? = some p
  | [], _, _, _, _, h => by simp at h
  | d :: ds, ps, i, e, h, q => by
    unfold D.toPyL at h
    split at h
    · rename_i x xs h1 h2
      cases h
      cases i with
      | zero => simp at q; subst q; exact ⟨x, h1, rfl⟩
      | succ i =>
        obtain ⟨p, h3, h4⟩ := toPyL_get (i := i) h2 (by simpa using q)
        exact ⟨p, h3, by simpa using h4⟩
    · cases h
theorem blt_maxD (hc : X.calm = true) (hu : X.A.units + 64 < cLine) {pins : List (Addr × Obj)} {s : Shared} {σ : L2.St} {Q : VK} {q : Addr} {us : List Value} {ds : List D} {ys : List V} {x : PyData} {xs : List PyData} {P : Sv → Prop} (I : Inv X pins σ H s) (r : Vals [V.ref q] us) (l : Le S H) (hb : H q = some (.lst ys)) (r2 : RpL X.K mg S ds ys)
    (h1 : D.toPyL ds = some (x :: xs)) (h2 : PySem.W.AlikeAll (x :: xs)) (h3 : PyData.canLayAll0 (x :: xs) = true) (h4 : PyData.depthAll (x :: xs) ≤ 60) (p : ∀ (i : Nat) d, ds[i]? = some d → d.toPy = some (PySem.W.maxD x xs) → P (.val d)) (k : ∀ z v H', Res X.K mg S H z v H' → P z → Q v H') :
    wpAny (model X.prog X.w) X.A (call (.builtin "max") us) (EP X pins σ Q) X.xe s := by
  cases r with
  | cons r rr =>
    cases rr
    rename_i u
    obtain rfl : u = Value.ref q := r
    obtain ⟨its, rv, pl, hz⟩ := I.list (SqL.of hb)
    obtain ⟨as, hr⟩ := Dp.readsAll I (x :: xs) ys its (DpAll.up l (r2.dp h1)) rv
    refine PySem.W.max_list_data (I.ok.hd hc) (by first | exact pl.isList | exact pl) (by simpa using hr) h2 (by omega) fun i v h' tk bs hv hrd hkp => ?_
    have hv' : its[i]? = some v := by simpa using hv
    obtain ⟨y, hy, ry⟩ : ∃ y, ys[i]? = some y ∧ RelV y v := by
      have hl := rv.length
      have hi := (List.getElem?_eq_some_iff.mp hv').1
      obtain ⟨y, hy⟩ : ∃ y, ys[i]? = some y := ⟨ys[i]'(by omega), by simp⟩
      obtain ⟨w, e1, e2⟩ := rv.get hy
      rw [hv'] at e1; cases e1
      exact ⟨y, hy, e2⟩
    obtain ⟨d, hd, rd⟩ := r2.getV hy
    obtain ⟨pd, e1, e2⟩ := toPyL_get h1 hd
    obtain ⟨bs', hr', _⟩ := PySem.W.readsAll_atA (vs := its.toArray) (by simpa using hr) i v hv
    have e3 : (x :: xs).getD i .none = pd := by rw [List.getD_eq_getElem?_getD, e2]; rfl
    rw [e3] at hr'
    have cl : pd.canLay0 = true := PyData.canLay0_of_mem _ _ h3 (List.mem_of_getElem? e2)
    have e4 : pd = PySem.W.maxD x xs := PySem.SeqAt.Reads.unique pd _ v _ _ cl (PySem.W.reads_keeps hkp hr') hrd
    subst e4
    have res : Res X.K mg S H (.val d) y H := .same rd
    exact ⟨y, H, I.kept (t' := tk) hkp, ry, k _ _ _ res (p i d hd e1)⟩
theorem blt_can (hc : X.calm = true) (hu : X.A.units + 64 < cLine) (b : Blt) : CallR X b.val (canA X.K mg (bltB b)) := by
  intro pins s σ H xs us Q I r h
  obtain ⟨S, as, P, l, rA, hf, k⟩ := h
  unfold bltB at hf
  split at hf
  · obtain ⟨x, rfl, ra⟩ := rA.one
    obtain ⟨q, ys, rfl, hb, _, r2⟩ := ra.tup l
    refine call_len pins s σ H _ us Q I r ⟨_, ys.length, rfl, .inr ⟨ys, hb, rfl⟩, ?_⟩
    rw [← r2.length]; exact k _ _ _ (.same (.int _)) hf
  · obtain ⟨x, rfl, ra⟩ := rA.one
    obtain ⟨q, ys, rfl, hb, r2⟩ := ra.lst l
    refine call_len pins s σ H _ us Q I r ⟨_, ys.length, rfl, .inl ⟨ys, SqL.of hb, rfl⟩, ?_⟩
    rw [← r2.length]; exact k _ _ _ (.same (.int _)) hf
  · obtain ⟨x, rfl, ra⟩ := rA.one
    obtain ⟨q, ys, rfl, hb, r2⟩ := ra.lsq l
    refine call_len pins s σ H _ us Q I r ⟨_, ys.length, rfl, .inl ⟨ys, hb, rfl⟩, ?_⟩
    rw [← r2.length]; exact k _ _ _ (.same (.int _)) hf
  · obtain ⟨x, rfl, ra⟩ := rA.one
    have e := ra.str; subst e
    exact call_len pins s σ H _ us Q I r ⟨_, _, rfl, ⟨hf.1, rfl⟩, k _ _ _ (.same (.int _)) hf.2⟩
  · obtain ⟨x, rfl, ra⟩ := rA.one
    have e := ra.int; subst e
    exact call_abs pins s σ H _ us Q I r ⟨_, rfl, k _ _ _ (.same (.int _)) hf⟩
  · obtain ⟨x, rfl, ra⟩ := rA.one
    have e := ra.int; subst e
    exact call_int1 pins s σ H _ us Q I r (.inl ⟨_, rfl, k _ _ _ (.same (.int _)) hf⟩)
  · obtain ⟨x, rfl, ra⟩ := rA.one
    have e := ra.bl; subst e
    exact call_int1 pins s σ H _ us Q I r (.inr ⟨_, rfl, k _ _ _ (.same (.int _)) hf⟩)
  · obtain ⟨x, rfl, ra⟩ := rA.one
    have e := ra.str; subst e
    obtain ⟨n, h1, h2, p⟩ := hf
    exact call_int_str pins s σ H _ us Q I r ⟨_, n, rfl, h1, h2, k _ _ _ (.same (.int _)) p⟩
  · obtain ⟨x, rfl, ra⟩ := rA.one
    have e := ra.bl; subst e
    exact call_bool1 pins s σ H _ us Q I r (.inr ⟨_, rfl, k _ _ _ (.same (.bl _)) hf⟩)
  · obtain ⟨x, rfl, ra⟩ := rA.one
    have e := ra.int; subst e
    exact call_str_int pins s σ H _ us Q I r ⟨_, rfl, hf.1, k _ _ _ (.same (.str _)) hf.2⟩
  · obtain ⟨x, y, rfl, ra, rb⟩ := rA.two
    have e := ra.int; subst e
    have e := rb.int; subst e
    exact call_min2 hc pins s σ H _ us Q I r ⟨_, _, rfl, k _ _ _ (.same (.int _)) hf⟩
  · obtain ⟨x, y, z, rfl, ra, rb, rc⟩ := rA.three
    have e := ra.int; subst e
    have e := rb.int; subst e
    have e := rc.int; subst e
    exact call_min3Nu hc pins s σ H _ us Q I r ⟨_, _, _, _, rfl, nuMin3_int, k _ _ _ (.same (.int _)) hf⟩
  · obtain ⟨x, y, rfl, ra, rb⟩ := rA.two
    have e := ra.int; subst e
    have e := rb.int; subst e
    exact call_max2 hc pins s σ H _ us Q I r ⟨_, _, rfl, k _ _ _ (.same (.int _)) hf⟩
  · obtain ⟨x, rfl, ra⟩ := rA.one
    obtain ⟨ns, rfl, hn, p⟩ := hf
    obtain ⟨q, ys, rfl, hb, r2⟩ := ra.lst l
    have e := r2.ints; subst e
    exact cr_min hc pins s σ H _ us Q I r ⟨q, ns, rfl, SqL.of hb, hn, fun m h1 h2 => k _ _ _ (.same (.int _)) (p m h1 h2)⟩
  · obtain ⟨x, rfl, ra⟩ := rA.one
    obtain ⟨q, ys, rfl, hb, r2⟩ := ra.lst l
    rcases hf with ⟨ns, rfl, hn, p⟩ | ⟨x, xs, h1, h2, h3, h4, p⟩
    case inr => exact blt_maxD hc hu I r l hb r2 h1 h2 h3 h4 p k
    have e := r2.ints; subst e
    exact cr_max hc pins s σ H _ us Q I r ⟨q, ns, rfl, SqL.of hb, hn, fun m h1 h2 => k _ _ _ (.same (.int _)) (p m h1 h2)⟩
  · obtain ⟨x, rfl, ra⟩ := rA.one
    obtain ⟨ns, rfl, p⟩ := hf
    obtain ⟨q, ys, rfl, hb, r2⟩ := ra.lst l
    have e := r2.ints; subst e
    exact cr_sum hc pins s σ H _ us Q I r ⟨q, ns, rfl, SqL.of hb, k _ _ _ (.same (.int _)) p⟩
  · obtain ⟨x, rfl, ra⟩ := rA.one
    obtain ⟨ns, rfl, p⟩ := hf
    obtain ⟨q, ys, rfl, hb, r2⟩ := ra.lst l
    have e := r2.bls; subst e
    exact cr_all hc pins s σ H _ us Q I r ⟨q, ns, rfl, SqL.of hb, k _ _ _ (.same (.bl _)) p⟩
  · obtain ⟨x, rfl, ra⟩ := rA.one
    obtain ⟨ns, rfl, p⟩ := hf
    obtain ⟨q, ys, rfl, hb, r2⟩ := ra.lst l
    have e := r2.bls; subst e
    exact cr_any hc pins s σ H _ us Q I r ⟨q, ns, rfl, SqL.of hb, k _ _ _ (.same (.bl _)) p⟩
  · obtain ⟨x, rfl, ra⟩ := rA.one
    obtain ⟨ds, e, p⟩ := hf
    unfold D.items at e
    split at e
    · cases e
      obtain ⟨q, ys, rfl, hb, _, r2⟩ := ra.tup l
      exact call_list_of pins s σ H _ us Q I r ⟨q, ys, rfl, .inr hb, fun t ht => k _ _ _ (.newL ht r2) p⟩
    · cases e
      obtain ⟨q, ys, rfl, hb, r2⟩ := ra.lst l
      exact call_list_of pins s σ H _ us Q I r ⟨q, ys, rfl, .inl (SqL.of hb), fun t ht => k _ _ _ (.newL ht r2) p⟩
    · cases e
      obtain ⟨q, ys, rfl, hb, r2⟩ := ra.lsq l
      exact call_list_of pins s σ H _ us Q I r ⟨q, ys, rfl, .inl hb, fun t ht => k _ _ _ (.newL ht r2) p⟩
    · cases e
  · obtain ⟨x, rfl, ra⟩ := rA.one
    obtain ⟨q, ys, rfl, hb, hb', r2⟩ := ra.tup l
    exact call_tuple_of pins s σ H _ us Q I r ⟨q, ys, rfl, .inr ⟨hb, k _ _ _ (.same (.tup hb' r2)) hf⟩⟩
  · obtain ⟨x, rfl, ra⟩ := rA.one
    obtain ⟨q, ys, rfl, hb, r2⟩ := ra.lst l
    exact call_tuple_of pins s σ H _ us Q I r ⟨q, ys, rfl, .inl ⟨SqL.of hb, fun t ht => k _ _ _ (.newT ht r2) hf⟩⟩
  · obtain ⟨x, rfl, ra⟩ := rA.one
    obtain ⟨q, ys, rfl, hb, r2⟩ := ra.lsq l
    exact call_tuple_of pins s σ H _ us Q I r ⟨q, ys, rfl, .inl ⟨hb, fun t ht => k _ _ _ (.newT ht r2) hf⟩⟩
  · exact hf.elim
end
end PL
set_option Elab.async false
set_option linter.all false
set_option maxRecDepth 100000
set_option maxHeartbeats 4000000
/-! PL3: readings over slots of plain data (p..), and the rules that tie them to the kit's readings. -/
namespace PL
open PySem PySem.Spec PyProof.Rows L2

abbrev pE := PEnv → (Sv → PEnv → Prop) → Prop
abbrev pV := PEnv → (D → PEnv → Prop) → Prop
abbrev pT := PEnv → (Bool → PEnv → Prop) → Prop
abbrev pA := PEnv → (List D → PEnv → Prop) → Prop
structure pEnds where
  nx : PEnv → Prop
  rt : Sv → PEnv → Prop
  bk : PEnv → Prop
  ct : PEnv → Prop
abbrev pS := pEnds → PEnv → Prop
abbrev pG := Sv → PEnv → (PEnv → Prop) → Prop
abbrev pGs := List D → PEnv → (PEnv → Prop) → Prop
abbrev XC := Exn → PEnv → Prop
abbrev PSp := Option M → List D → (Sv → Option M → Prop) → (Exn → Option M → Prop) → Prop

/-! ### the readings -/
def pBad : pE := fun _ _ => False
def pC (d : D) : pE := fun e P => P (.val d) e
def pVar (i : Nat) : pE := fun e P => match e[i]? with
  | some (some (.val d)) => P (.val d) e
  | some (some (.own m)) => P (.val m.fz) (e.set i (some (.val m.fz)))
  | some (some (.exn x)) => P (.exn x) e
  | _ => False
/-- the content is handed on (return x) -/
def pMove (i : Nat) : pE := fun e P => match e[i]? with
  | some (some (.val d)) => P (.val d) e
  | some (some (.own m)) => P (.own m) (e.set i none)
  | _ => False
/-- the content is looked at (instances are read by their fields) -/
def pPk (i : Nat) : pV := fun e P => match e[i]? with
  | some (some (.val d)) => P d e
  | some (some (.own (.lst ds))) => P (.lst ds) e
  | some (some (.bor (.lst ds))) => P (.lst ds) e
  | _ => False
def pF (p : pE) : pV := fun e P => p e fun sv e1 => match sv.fz with
  | some d => P d e1
  | none => False
def pOp (f : F2) (a : pE) (b : pV) : pE := fun e P => pF a e fun x e1 => b e1 fun y e2 => f x y fun z => P z e2
def pUn (f : D → (Sv → Prop) → Prop) (a : pE) : pE := fun e P => pF a e fun x e1 => f x fun z => P z e1
def pIsN (neg : Bool) (a : pV) : pE := fun e P => a e fun x e1 => P (.val (.bl (if neg then !x.isNon else x.isNon))) e1
def pChain (f g : F2) (a b : pE) (c : pV) : pE := fun e P => pF a e fun x e1 => pF b e1 fun y e2 => f x y fun z => match z with
  | .val (.bl true) => c e2 fun w e3 => g y w fun z => P z e3
  | .val (.bl false) => P (.val (.bl false)) e2
  | _ => False
def pB (p : pE) : pT := fun e P => p e fun sv e1 => match sv with
  | .val (.bl b) => P b e1
  | _ => False
def pAndV (a b : pE) : pE := fun e P => pB a e fun k e1 => if k = true then b e1 P else P (.val (.bl false)) e1
def pOrV (a b : pE) : pE := fun e P => pB a e fun k e1 => if k = true then P (.val (.bl true)) e1 else b e1 P
def pNotV (a : pE) : pE := fun e P => pB a e fun k e1 => P (.val (.bl (!k))) e1
def pAndT (a b : pT) : pT := fun e P => a e fun k e1 => if k = true then b e1 P else P false e1
def pOrT (a b : pT) : pT := fun e P => a e fun k e1 => if k = true then P true e1 else b e1 P
def pNotT (a : pT) : pT := fun e P => a e fun k e1 => P (!k) e1
def pIf (t : pT) (a b : pE) : pE := fun e P => t e fun k e1 => if k = true then a e1 P else b e1 P
def pNil : pA := fun e P => P [] e
def pCons (a : pE) (r : pA) : pA := fun e P => pF a e fun d e1 => r e1 fun ds e2 => P (d :: ds) e2
/-- the last argument only looked at -/
def pLast (a : pV) : pA := fun e P => a e fun d e1 => P [d] e1
def pTup (a : pA) : pE := fun e P => a e fun ds e1 => ds.length ≤ sizeLine ∧ P (.val (.tup ds)) e1
def pLst (a : pA) : pE := fun e P => a e fun ds e1 => ds.length ≤ sizeLine ∧ P (.own (.lst ds)) e1
def pBlt (b : Blt) (a : pA) : pE := fun e P => a e fun ds e1 => bltB b ds fun z => P z e1
/-- x[..], x a name -/
def pIxN (i : Nat) (b : pV) : pE := fun e P => (∃ sv, e[i]? = some (some sv)) ∧ b e fun k e1 => pPk i e1 fun d e2 => itemB d k fun z => P z e2
def pPart (p : Option pE) : PEnv → (Option Int → PEnv → Prop) → Prop := match p with
  | none => fun e P => P none e
  | some p => fun e P => p e fun sv e1 => match sv with
    | .val (.int i) => P (some i) e1
    | _ => False
def pSl (a : pE) (lo hi : Option pE) : pE := fun e P => pF a e fun x e1 => pPart lo e1 fun l e2 => pPart hi e2 fun h e3 => sliceB x l h fun z => P z e3
def pSlN (i : Nat) (lo hi : Option pE) : pE := fun e P => (∃ sv, e[i]? = some (some sv)) ∧ pPart lo e fun l e2 => pPart hi e2 fun h e3 => pPk i e3 fun x e4 => sliceB x l h fun z => P z e4
/-- the class of a value, as isinstance asks it -/
def tyName : D → Option String
  | .non => some "NoneType" | .bl _ => some "bool" | .int _ => some "int" | .str _ => some "str" | .tup _ => some "tuple" | .lst _ => some "list" | _ => none
def pIsi (T : String) (a : pV) : pE := fun e P => a e fun d e1 => ∃ n b, tyName d = some n ∧ kitB n T = some b ∧ P (.val (.bl b)) e1
def getF (fs : List (Str × D)) (f : Str) (P : Sv → Prop) : Prop := ∃ d, fs.lookup f = some d ∧ P (.val d)
/-- x.append(e), x.pop(), .. on a list that the slot holds -/
def heldL : Sv → Option (List D)
  | .own (.lst ds) => some ds
  | .bor (.lst ds) => some ds
  | _ => none
def pAppend (i : Nat) (a : pE) : pE := fun e P => (∃ sv, e[i]? = some (some sv) ∧ (heldL sv).isSome = true) ∧ pF a e fun d e1 => ∃ sv ds, e1[i]? = some (some sv) ∧ heldL sv = some ds ∧ ds.length < sizeLine ∧ P (.val .non) (e1.set i (some (reHold sv (.lst (ds ++ [d])))))
def pPop (i : Nat) : pE := fun e P => ∃ sv ds d, e[i]? = some (some sv) ∧ heldL sv = some ds ∧ ds[ds.length - 1]? = some d ∧ P (.val d) (e.set i (some (reHold sv (.lst ds.dropLast))))
def pPopAt (i : Nat) (a : pE) : pE := fun e P => (∃ sv, e[i]? = some (some sv) ∧ (heldL sv).isSome = true) ∧ pF a e fun x e1 => ∃ sv ds j k d, e1[i]? = some (some sv) ∧ heldL sv = some ds ∧ x = .int j ∧ (-(2 ^ 63) ≤ j ∧ j < 2 ^ 63) ∧ seqIndex? j ds.length = some k ∧ ds[k]? = some d ∧ P (.val d) (e1.set i (some (reHold sv (.lst (ds.eraseIdx k)))))

def gP (i : Nat) : pG := fun sv e P => (∀ m, e[i]? ≠ some (some (.bor m))) ∧ P (e.set i (some sv))
def gsNil : pGs := fun ds e P => ds = [] ∧ P e
def gsCons (g : pG) (h : pGs) : pGs := fun ds e P => match ds with
  | d :: r => g (.val d) e fun e1 => h r e1 P
  | [] => False
def gTL (n : Nat) (g : pGs) : pG := fun sv e P => ∃ d ds, sv.fz = some d ∧ d.items = some ds ∧ ds.length = n ∧ g ds e P
/-- x[i] = v -/
def gIx (i : Nat) (b : pE) : pG := fun sv e P => ∃ d, sv.fz = some d ∧ (∃ sv, e[i]? = some (some sv) ∧ (heldL sv).isSome = true) ∧ pF b e fun k e1 => ∃ s ds z j, e1[i]? = some (some s) ∧ heldL s = some ds ∧ k = .int z ∧ ixN ds.length z = some j ∧ P (e1.set i (some (reHold s (.lst (ds.set j d)))))

abbrev pI := PEnv → (List D → PEnv → Prop) → Prop
def iVal (a : pE) : pI := fun e P => pF a e fun d e1 => match d with
  | .tup ds => P ds e1
  | .lst ds => P ds e1
  | .lsq ds => P ds e1
  | .str z => P (z.cps.toList.map fun c => .str ⟨#[c]⟩) e1
  | _ => False
def rangeD (lo : Int) (n : Nat) : List D := (List.range n).map fun (i : Nat) => .int (lo + i)
def iRange1 (a : pE) : pI := fun e P => pF a e fun d e1 => ∃ j, d = .int j ∧ (-(2 ^ 62) ≤ j ∧ j < 2 ^ 62) ∧ P (rangeD 0 j.toNat) e1
def iRange2 (a b : pE) : pI := fun e P => pF a e fun d e1 => pF b e1 fun d2 e2 => ∃ i j, d = .int i ∧ d2 = .int j ∧ (-(2 ^ 62) ≤ i ∧ i < 2 ^ 62 ∧ -(2 ^ 62) ≤ j ∧ j < 2 ^ 62) ∧ P (rangeD i (j - i).toNat) e2
/-- enumerate, zip -/
def enumD (ds : List D) : List D := (List.range ds.length).map fun (i : Nat) => .tup [.int (i : Nat), ds.getD i .non]
def iEnumP (a : pE) : pI := fun e P => pF a e fun d e1 => ∃ ds, d.items = some ds ∧ P (enumD ds) e1
def zipD (as bs : List D) : List D := List.zipWith (fun x y => .tup [x, y]) as bs
def iZipP (a b : pE) : pI := fun e P => pF a e fun d e1 => pF b e1 fun d2 e2 => ∃ as bs, ((d = .lst as ∧ d2 = .lst bs) ∨ (d = .tup as ∧ d2 = .tup bs)) ∧ P (zipD as bs) e2

def forL (g : pG) (b : pS) : List D → pS
  | [] => fun Q e => Q.nx e
  | d :: r => fun Q e => g (.val d) e fun e1 => b { nx := forL g b r Q, rt := Q.rt, bk := Q.nx, ct := forL g b r Q } e1
def pFor (it : pI) (g : pG) (b : pS) : pS := fun Q e => it e fun ds e1 => forL g b ds Q e1
def pWhile (t : pT) (b : pS) : pS := fun Q e => ∃ W : Nat → PEnv → Prop, (∃ m, W m e) ∧ ∀ m e, W m e → t e fun k e1 => if k = true then ∃ N : PEnv → Prop, (∀ e2, N e2 → ∃ m', m' < m ∧ W m' e2) ∧ b { nx := N, rt := Q.rt, bk := Q.nx, ct := N } e1 else Q.nx e1
def wipeP (e : PEnv) : List Nat → PEnv
  | [] => e
  | v :: vs => (wipeP e vs).set v none
def lcL (g : pG) (t : pT) (p : pE) (own : List Nat) : List D → List D → PEnv → (List D → PEnv → Prop) → Prop
  | [], acc, e, P => P acc e
  | d :: r, acc, e, P => g (.val d) (wipeP e own) fun e1 => t e1 fun k e2 => if k = true then pF p e2 fun x e3 => acc.length < sizeLine ∧ lcL g t p own r (acc ++ [x]) e3 P else lcL g t p own r acc e2 P
def pYes : pT := fun e P => P true e
def pLc (it : pI) (g : pG) (t : pT) (p : pE) (own : List Nat) : pE := fun e P => it e fun ds e1 => lcL g t p own ds [] e1 fun acc e2 => P (.own (.lst acc)) (wipeP e2 own)

def sNext : pS := fun Q e => Q.nx e
def sSeq (a b : pS) : pS := fun Q e => a { Q with nx := b Q } e
def sDrop (p : pE) : pS := fun Q e => p e fun _ e1 => Q.nx e1
def sRet (p : pE) : pS := fun Q e => p e Q.rt
def sIf (t : pT) (a b : pS) : pS := fun Q e => t e fun k e1 => if k = true then a Q e1 else b Q e1
def sAsg (p : pE) (g : pG) : pS := fun Q e => p e fun sv e1 => g sv e1 Q.nx
def sPar (i j : Nat) (a : pA) : pS := fun Q e => a e fun ds e1 => match ds with
  | [x, y] => gP i (.val x) e1 fun e2 => gP j (.val y) e2 Q.nx
  | _ => False
def sBreak : pS := fun Q e => Q.bk e
def sCont : pS := fun Q e => Q.ct e
/-- x[i] += k -/
def sAugIx (i : Nat) (b : pE) (p : pE) : pS := fun Q e => (∃ sv, e[i]? = some (some sv) ∧ (heldL sv).isSome = true) ∧ pF b e fun k e1 => ∃ z s ds a, k = .int z ∧ 0 ≤ z ∧ e1[i]? = some (some s) ∧ heldL s = some ds ∧ atI ds z = some (.int a) ∧
  pF p e1 fun y e2 => ∃ c s ds j, y = .int c ∧ e2[i]? = some (some s) ∧ heldL s = some ds ∧ ixN ds.length z = some j ∧ Q.nx (e2.set i (some (reHold s (.lst (ds.set j (.int (a + c)))))))

/-! ### the kit's readings that these are -/
def canE (C : Cfg) (p : pE) : TE := fun σ H Q => ∃ ts vs e P, Rep C ts vs e σ H ∧ p e P ∧ ∀ sv e' v H', Rep C (sv :: ts) (v :: vs) e' σ H' → P sv e' → Q v H'
def canP (C : Cfg) (p : pV) : TE := fun σ H Q => ∃ ts vs e P, Rep C ts vs e σ H ∧ p e P ∧ ∀ S d e' v H', RepAt C S ts vs e' σ H' → Ra C.K C.mg S H' d v → P d e' → Q v H'
def canT (C : Cfg) (p : pT) : TT := fun σ H Q => ∃ ts vs e P, Rep C ts vs e σ H ∧ p e P ∧ ∀ k e' H', Rep C ts vs e' σ H' → P k e' → Q k H'
def canL (C : Cfg) (p : pA) : TA := fun σ H Q => ∃ ts vs e P, Rep C ts vs e σ H ∧ p e P ∧ ∀ S ds e' ws H', RepAt C S ts vs e' σ H' → RaL C.K C.mg S H' ds ws → P ds e' → Q ws H'
/-- arguments that may be kept -/
def canK (C : Cfg) (p : pA) : TA := fun σ H Q => ∃ ts vs e P, Rep C ts vs e σ H ∧ p e P ∧ ∀ S ds e' ws H', RepAt C S ts vs e' σ H' → RpL C.K C.mg S ds ws → P ds e' → Q ws H'
def canO (C : Cfg) (p : PEnv → (Option Int → PEnv → Prop) → Prop) : TO := fun σ H Q => ∃ ts vs e P, Rep C ts vs e σ H ∧ p e P ∧ ∀ k e' H', Rep C ts vs e' σ H' → P k e' → Q k H'
/-- ρ: how the slots behind a store lie to those ahead of it -/
def canG (C : Cfg) (ρ : L2.St → L2.St → Prop) (g : pG) : TG := fun v σ H Q => ∃ sv ts vs e P, Rep C (sv :: ts) (v :: vs) e σ H ∧ g sv e P ∧ ∀ e' σ' H', Rep C ts vs e' σ' H' → ρ σ σ' → P e' → Q σ' H'
def canGs (C : Cfg) (ρ : L2.St → L2.St → Prop) (g : pGs) : TGs := fun ws σ H Q => ∃ ds ts vs e P, ws.length = ds.length ∧ Rep C (ds.map .val ++ ts) (ws ++ vs) e σ H ∧ g ds e P ∧ ∀ e' σ' H', Rep C ts vs e' σ' H' → ρ σ σ' → P e' → Q σ' H'
def anySt : L2.St → L2.St → Prop := fun _ _ => True
structure RhoOk (ρ : L2.St → L2.St → Prop) : Prop where
  refl : ∀ σ, ρ σ σ
  trans : ∀ {σ τ υ}, ρ σ τ → ρ τ υ → ρ σ υ
theorem anySt_ok : RhoOk anySt := ⟨fun _ => trivial, fun _ _ => trivial⟩
theorem wipe_ok (own : List Nat) : RhoOk (fun σ τ => L2.wipe τ own = L2.wipe σ own) := ⟨fun _ => rfl, fun h1 h2 => h2.trans h1⟩
def canS (C : Cfg) (p : pS) : TS := fun Dn σ H => ∃ ts vs e Q, Rep C ts vs e σ H ∧ p Q e ∧ (∀ e' σ' H', Rep C ts vs e' σ' H' → Q.nx e' → Dn.nx σ' H') ∧ (∀ sv e' v σ' H', Rep C (sv :: ts) (v :: vs) e' σ' H' → Q.rt sv e' → Dn.rt v H') ∧
  (∀ e' σ' H', Rep C ts vs e' σ' H' → Q.bk e' → Dn.bk σ' H') ∧ (∀ e' σ' H', Rep C ts vs e' σ' H' → Q.ct e' → Dn.ct σ' H')
/-- what a for walks: the data, under what the temporaries keep -/
structure Wk (C : Cfg) (J : It) (ds : List D) (kts : List Sv) (kvs : List V) : Prop where
  len : kts.length = kvs.length
  go : ∀ {S ts vs e σ H} (i : Nat), RepAt C S (kts ++ ts) (kvs ++ vs) e σ H → i < ds.length → J.go i H
  stop : ∀ {S ts vs e σ H}, RepAt C S (kts ++ ts) (kvs ++ vs) e σ H → J.stop ds.length H
  yld : ∀ {S ts vs e σ H} (i : Nat) x H' d, RepAt C S (kts ++ ts) (kvs ++ vs) e σ H → J.yld i H x H' → ds[i]? = some d → Res C.K C.mg S H (.val d) x H'
def canI (C : Cfg) (p : pI) : TI := fun σ H R => ∃ ts vs e P, Rep C ts vs e σ H ∧ p e P ∧ ∀ J ds kts kvs e' H', Rep C (kts ++ ts) (kvs ++ vs) e' σ H' → Wk C J ds kts kvs → P ds e' → R J H'

section
variable {X : Cx} {C : Cfg} {a b c ex : Expr} {pos : Pos} {pa pb pc p : pE} {q : pV}
theorem _root_.L2.PE.up {t t' : TE} (h : PE X a t) (f : ∀ σ H Q, t' σ H Q → t σ H Q) : PE X a t' := ⟨fun pins s σ H Q I w => h.run pins s σ H Q I (f _ _ _ w)⟩
theorem _root_.L2.PT.up {t t' : TT} (h : PT X a t) (f : ∀ σ H Q, t' σ H Q → t σ H Q) : PT X a t' := ⟨fun pins s σ H Q I w => h.run pins s σ H Q I (f _ _ _ w)⟩
theorem _root_.L2.PA.up {es : List Expr} {t t' : TA} (h : PA X es t) (f : ∀ σ H Q, t' σ H Q → t σ H Q) : PA X es t' := ⟨fun pos pins s σ H Q I w => h.run pos pins s σ H Q I (f _ _ _ w)⟩
theorem _root_.L2.PS.up {st : Stmt} {t t' : TS} (h : PS X st t) (f : ∀ Dn σ H, t' Dn σ H → t Dn σ H) : PS X st t' := ⟨fun pins s σ H Dn I w => h.run pins s σ H Dn I (f _ _ _ w)⟩
theorem _root_.L2.PSs.up {st : List Stmt} {t t' : TS} (h : PSs X st t) (f : ∀ Dn σ H, t' Dn σ H → t Dn σ H) : PSs X st t' := ⟨fun pins s σ H Dn I w => h.run pins s σ H Dn I (f _ _ _ w)⟩
theorem _root_.L2.PG.up {t t' : TG} (h : PG X a t) (f : ∀ v σ H Q, t' v σ H Q → t v σ H Q) : PG X a t' := ⟨fun pins s σ H v u Q I r w => h.run pins s σ H v u Q I r (f _ _ _ _ w)⟩
theorem _root_.L2.PGs.up {es : List Expr} {t t' : TGs} (h : PGs X es t) (f : ∀ v σ H Q, t' v σ H Q → t v σ H Q) : PGs X es t' := ⟨fun pins s σ H v u Q I r w => h.run pins s σ H v u Q I r (f _ _ _ _ w)⟩
theorem _root_.L2.PI.up {tg : Expr} {t t' : TI} (h : PI X tg a t) (f : ∀ σ H R, t' σ H R → t σ H R) : PI X tg a t' := ⟨fun pins s σ H R I w => h.run pins s σ H R I (f _ _ _ w)⟩
theorem _root_.L2.PO.up {o : Option Expr} {t t' : TO} (h : PO X o t) (f : ∀ σ H Q, t' σ H Q → t σ H Q) : PO X o t' := ⟨fun pins s σ H Q I w => h.run pins s σ H Q I (f _ _ _ w)⟩
theorem _root_.L2.PTs.up {es : List Expr} {t t' : TT} (h : PTs X es t) (f : ∀ σ H Q, t' σ H Q → t σ H Q) : PTs X es t' := ⟨fun pins s σ H Q I w => h.run pins s σ H Q I (f _ _ _ w)⟩

/-- using a reading -/
theorem useE {σ : L2.St} {H : Hp} {Q : VK} {ts : List Sv} {vs : List V} {e : PEnv} {P : Sv → PEnv → Prop} (R : Rep C ts vs e σ H) (h : p e P) (k : ∀ sv e' v H', Rep C (sv :: ts) (v :: vs) e' σ H' → P sv e' → Q v H') : canE C p σ H Q := ⟨ts, vs, e, P, R, h, k⟩
theorem useF {σ : L2.St} {H : Hp} {Q : VK} {ts : List Sv} {vs : List V} {e : PEnv} {P : D → PEnv → Prop} (R : Rep C ts vs e σ H) (h : pF p e P) (k : ∀ d e' v H', Rep C (.val d :: ts) (v :: vs) e' σ H' → P d e' → Q v H') : canE C p σ H Q :=
  ⟨ts, vs, e, _, R, h, fun sv e' v H' R' h' => by
    split at h'
    · rename_i d q
      exact k d e' v H' (R'.fz q) h'
    · exact h'.elim⟩
theorem useP {σ : L2.St} {H : Hp} {Q : VK} {ts : List Sv} {vs : List V} {e : PEnv} {P : D → PEnv → Prop} (R : Rep C ts vs e σ H) (h : q e P) (k : ∀ S d e' v H', RepAt C S ts vs e' σ H' → Ra C.K C.mg S H' d v → P d e' → Q v H') : canP C q σ H Q := ⟨ts, vs, e, P, R, h, k⟩

theorem me_c {t : TE} {d : D} {v : V} (h : PE X a (tC v)) (r : ∀ S, Rp C.K C.mg S d v) : PE X a (canE C (pC d)) := h.up fun σ H Q ⟨ts, vs, e, P, ⟨S, R⟩, h, k⟩ => k _ e v H ⟨S, R.pushV (r S)⟩ h
theorem me_var {i : Nat} (h : PE X a (tVar i)) : PE X a (canE C (pVar i)) := h.up fun σ H Q ⟨ts, vs, e, P, ⟨S, R⟩, h, k⟩ => by
  unfold pVar at h
  split at h
  · rename_i d q
    obtain ⟨v, h1, R'⟩ := R.slotV q
    exact ⟨v, h1, k _ e v H ⟨S, R'⟩ h⟩
  · rename_i m q
    obtain ⟨S', v, h1, R'⟩ := R.slotF q
    exact ⟨v, h1, k _ _ v H ⟨S', R'⟩ h⟩
  · rename_i x q
    obtain ⟨v, h1, h2⟩ := R.slot i _ q
    exact ⟨v, h1, k _ e v H ⟨S, R.push h2 fun a => by rw [own1_exn, Nat.zero_add]; exact R.dist a⟩ h⟩
  · exact h.elim
theorem me_move {i : Nat} (h : PE X a (tVar i)) : PE X a (canE C (pMove i)) := h.up fun σ H Q ⟨ts, vs, e, P, ⟨S, R⟩, h, k⟩ => by
  unfold pMove at h
  split at h
  · rename_i d q
    obtain ⟨v, h1, R'⟩ := R.slotV q
    exact ⟨v, h1, k _ e v H ⟨S, R'⟩ h⟩
  · rename_i m q
    obtain ⟨v, h1, R'⟩ := R.slotM q
    exact ⟨v, h1, k _ _ v H ⟨S, R'⟩ h⟩
  · exact h.elim
/-- what a slot holds, looked at -/
theorem RepAt.look {S : Hp} {ts : List Sv} {vs : List V} {e : PEnv} {σ : L2.St} {H : Hp} {i : Nat} {m : M} {sv : Sv} (R : RepAt C S ts vs e σ H) (q : e[i]? = some (some sv)) (hm : isHeld sv m) (hl : ∃ ds, m = .lst ds) : ∃ v, σ[i]? = some (some v) ∧ Ra C.K C.mg S H m.fz v := by
  obtain ⟨a, h1, h2, _⟩ := R.change q hm
  obtain ⟨ds, rfl⟩ := hl
  obtain ⟨xs, h3, h4⟩ := h2
  exact ⟨_, h1, .inr ⟨ds, a, xs, rfl, rfl, h3, h4⟩⟩
theorem mp_pk {i : Nat} (h : PE X a (tVar i)) : PE X a (canP C (pPk i)) := h.up fun σ H Q ⟨ts, vs, e, P, ⟨S, R⟩, h, k⟩ => by
  unfold pPk at h
  split at h
  · rename_i d q
    obtain ⟨v, h1, h2⟩ := R.slot i _ q
    exact ⟨v, h1, k S d e v H R (.inl h2) h⟩
  · rename_i m q
    obtain ⟨v, h1, h2⟩ := R.look (m := .lst m) q rfl ⟨_, rfl⟩
    exact ⟨v, h1, k S _ e v H R h2 h⟩
  · rename_i m q
    obtain ⟨v, h1, h2⟩ := R.look (m := .lst m) q rfl ⟨_, rfl⟩
    exact ⟨v, h1, k S _ e v H R h2 h⟩
  · exact h.elim
theorem mp_of (h : PE X a (canE C p)) : PE X a (canP C (pF p)) := h.up fun σ H Q ⟨ts, vs, e, P, R, h, k⟩ => useF R h fun d e' v H' ⟨S, R'⟩ h' => k S d e' v H' R'.pop (.inl R'.topV) h'
theorem Rep.res {S H H' : Hp} {ts : List Sv} {vs : List V} {e : PEnv} {σ : L2.St} {z : Sv} {v : V} (h : RepAt C S ts vs e σ H) (r : Res C.K C.mg S H z v H') : Rep C (z :: ts) (v :: vs) e σ H' := h.res r
theorem me_op {f : F2} {op : R2} (hr : op = can2 C.K C.mg f) (h : ∀ ta tb, PE X a ta → PE X b tb → PE X ex (tOp op ta tb)) (ha : PE X a (canE C pa)) (hb : PE X b (canP C q)) : PE X ex (canE C (pOp f pa q)) :=
  (h _ _ ha hb).up fun σ H Q ⟨ts, vs, e, P, R, h, k⟩ => useF R h fun x e1 v H1 R1 h1 => useP R1 h1 fun S y e2 w H2 R2 ry h2 => by
    rw [hr]
    exact ⟨S, x, y, _, R2.sub, .inl R2.topV, ry, h2, fun z v' H' res hz => k z e2 v' H' (Rep.res R2.pop res) hz⟩
theorem me_un {f : D → (Sv → Prop) → Prop} {t : V → Hp → VK → Prop} (hr : t = canU C.K C.mg f) (h : ∀ ta, PE X a ta → PE X ex (tUn t ta)) (ha : PE X a (canE C pa)) : PE X ex (canE C (pUn f pa)) :=
  (h _ ha).up fun σ H Q ⟨ts, vs, e, P, R, h, k⟩ => useF R h fun x e1 v H1 ⟨S, R1⟩ h1 => by
    rw [hr]
    exact ⟨S, x, _, R1.sub, .inl R1.topV, h1, fun z v' H' res hz => k z e1 v' H' (Rep.res R1.pop res) hz⟩
theorem me_isN (ha : PE X a (canP C q)) {j pos'} : PE X (.Compare a [.Is] [.Constant .none j pos'] pos) (canE C (pIsN false q)) :=
  (pe_cmp (pc_isN ha)).up fun σ H Q ⟨ts, vs, e, P, R, h, k⟩ => useP R h fun S x e1 v H1 R1 rx h1 => by
    rw [rx.isNon]
    exact k _ e1 _ H1 ⟨S, R1.pushV (.bl _)⟩ h1
theorem me_notN (ha : PE X a (canP C q)) {j pos'} : PE X (.Compare a [.IsNot] [.Constant .none j pos'] pos) (canE C (pIsN true q)) :=
  (pe_cmp (pc_notN ha)).up fun σ H Q ⟨ts, vs, e, P, R, h, k⟩ => useP R h fun S x e1 v H1 R1 rx h1 => by
    rw [rx.isNon]
    exact k _ e1 _ H1 ⟨S, R1.pushV (.bl _)⟩ h1
theorem useB {σ : L2.St} {H : Hp} {Q : VK} {ts : List Sv} {vs : List V} {e : PEnv} {P : Bool → PEnv → Prop} (R : Rep C ts vs e σ H) (h : pB p e P) (k : ∀ b e' H', Rep C ts vs e' σ H' → P b e' → Q (.bl b) H') : canE C p σ H Q :=
  ⟨ts, vs, e, _, R, h, fun sv e' v H' ⟨S, R'⟩ h' => by
    split at h'
    · have r := R'.topV
      cases r
      exact k _ e' H' ⟨S, R'.pop⟩ h'
    · exact h'.elim⟩
theorem me_andV {t : pE} (h : ∀ ta tb, PE X a ta → PE X b tb → PE X ex (tAndV ta tb)) (ha : PE X a (canE C pa)) (hb : PE X b (canE C pb)) : PE X ex (canE C (pAndV pa pb)) :=
  (h _ _ ha hb).up fun σ H Q ⟨ts, vs, e, P, R, h, k⟩ => useB R h fun b e1 H1 R1 h1 => ⟨b, rfl, by
    cases b
    · obtain ⟨S, R1⟩ := R1
      exact k _ e1 _ H1 ⟨S, R1.pushV (.bl _)⟩ h1
    · exact useE R1 h1 k⟩
theorem me_orV {t : pE} (h : ∀ ta tb, PE X a ta → PE X b tb → PE X ex (tOrV ta tb)) (ha : PE X a (canE C pa)) (hb : PE X b (canE C pb)) : PE X ex (canE C (pOrV pa pb)) :=
  (h _ _ ha hb).up fun σ H Q ⟨ts, vs, e, P, R, h, k⟩ => useB R h fun b e1 H1 R1 h1 => ⟨b, rfl, by
    cases b
    · exact useE R1 h1 k
    · obtain ⟨S, R1⟩ := R1
      exact k _ e1 _ H1 ⟨S, R1.pushV (.bl _)⟩ h1⟩
theorem me_notV (ha : PE X a (canE C pa)) : PE X (.UnaryOp .Not a pos) (canE C (pNotV pa)) :=
  (pe_not ha).up fun σ H Q ⟨ts, vs, e, P, R, h, k⟩ => useB R h fun b e1 H1 ⟨S, R1⟩ h1 => ⟨b, rfl, k _ e1 _ H1 ⟨S, R1.pushV (.bl _)⟩ h1⟩
theorem useT {pt : pT} {σ : L2.St} {H : Hp} {Q : Bool → Hp → Prop} {ts : List Sv} {vs : List V} {e : PEnv} {P : Bool → PEnv → Prop} (R : Rep C ts vs e σ H) (h : pt e P) (k : ∀ b e' H', Rep C ts vs e' σ H' → P b e' → Q b H') : canT C pt σ H Q := ⟨ts, vs, e, P, R, h, k⟩
theorem mt_of (h : ∀ t, PE X a t → PT X a (tB t)) (ha : PE X a (canE C pa)) : PT X a (canT C (pB pa)) :=
  (h _ ha).up fun σ H Q ⟨ts, vs, e, P, R, h, k⟩ => useB R h fun b e1 H1 R1 h1 => ⟨b, rfl, k b e1 H1 R1 h1⟩
theorem mt_not {pt : pT} (ha : PT X a (canT C pt)) : PT X (.UnaryOp .Not a pos) (canT C (pNotT pt)) :=
  (pt_not ha).up fun σ H Q ⟨ts, vs, e, P, R, h, k⟩ => useT R h fun b e1 H1 R1 h1 => k _ e1 H1 R1 h1
theorem _root_.L2.PW.up {t t' : TT} (h : PW X a t) (f : ∀ σ H Q, t' σ H Q → t σ H Q) : PW X a t' := ⟨fun w pins s σ H Q I x => h.run w pins s σ H Q I (f _ _ _ x)⟩
theorem mw_and {pt pu : pT} {rest : List Expr} (ha : PT X a (canT C pt)) (hb : PW X (.BoolOp .And (b :: rest) pos) (canT C pu)) : PW X (.BoolOp .And (a :: b :: rest) pos) (canT C (pAndT pt pu)) :=
  (pw_and ha hb).up fun σ H Q ⟨ts, vs, e, P, R, h, k⟩ => useT R h fun b e1 H1 R1 h1 => by
    cases b
    · exact k _ e1 H1 R1 h1
    · exact useT R1 h1 k
theorem mw_or {pt pu : pT} {rest : List Expr} (ha : PT X a (canT C pt)) (hb : PW X (.BoolOp .Or (b :: rest) pos) (canT C pu)) : PW X (.BoolOp .Or (a :: b :: rest) pos) (canT C (pOrT pt pu)) :=
  (pw_or ha hb).up fun σ H Q ⟨ts, vs, e, P, R, h, k⟩ => useT R h fun b e1 H1 R1 h1 => by
    cases b
    · exact useT R1 h1 k
    · exact k _ e1 H1 R1 h1
theorem me_if {pt : pT} (hc : PT X c (canT C pt)) (ha : PE X a (canE C pa)) (hb : PE X b (canE C pb)) : PE X (.IfExp c a b pos) (canE C (pIf pt pa pb)) :=
  (pe_ifExp hc ha hb).up fun σ H Q ⟨ts, vs, e, P, R, h, k⟩ => useT R h fun b e1 H1 R1 h1 => by
    cases b
    · exact useE R1 h1 k
    · exact useE R1 h1 k
theorem me_chain {f g : F2} {r r' : R2} (hr : r = can2 C.K C.mg f) (hr' : r' = can2 C.K C.mg g) (h : ∀ ta tb tc, PE X a ta → PE X b tb → PE X c tc → PE X ex (tChain r r' ta tb tc)) (ha : PE X a (canE C pa)) (hb : PE X b (canE C pb)) (hc : PE X c (canP C q)) : PE X ex (canE C (pChain f g pa pb q)) :=
  (h _ _ _ ha hb hc).up fun σ H Q ⟨ts, vs, e, P, R, h, k⟩ => useF R h fun x e1 v H1 R1 h1 => useF R1 h1 fun y e2 w H2 ⟨S, R2⟩ h2 => by
    rw [hr, hr']
    refine ⟨S, x, y, _, R2.sub, .inl R2.pop.topV, .inl R2.topV, h2, fun z v' H' res hz => ?_⟩
    split at hz
    · obtain ⟨S', R3⟩ := R2.res res
      have t := R3.topV
      cases t
      refine ⟨true, rfl, iteT ?_⟩
      refine useP ⟨S', R3.pop⟩ hz fun S4 d e4 w4 H4 R4 r4 h4 => ?_
      exact ⟨S4, y, d, _, R4.sub, .inl R4.topV, r4, h4, fun z v' H' res hz => k z e4 v' H' (Rep.res R4.pop.pop res) hz⟩
    · obtain ⟨S', R3⟩ := R2.res res
      have t := R3.topV
      cases t
      exact ⟨false, rfl, iteF (k _ e2 _ _ ⟨S', R3.pop.pop.pop.pushV (.bl _)⟩ hz)⟩
    · exact hz.elim

/-! ### arguments, displays -/
def notStar : Expr → Bool
  | .Starred _ _ => false
  | _ => true
theorem star_cons {e : Expr} {es : List Expr} {env : Env} (h : notStar e = true) : starEach (e :: es) env = (false, eval e env) :: starEach es env := by
  cases e <;> first | rfl | cases h
theorem star_any {pos : Pos} {env : Env} : ∀ {es : List Expr}, es.all notStar = true → (backTo pos (starEach es env)).any (·.1) = false
  | [], _ => rfl
  | e :: es, h => by
    rw [List.all_cons, Bool.and_eq_true] at h
    rw [star_cons h.1]
    show (false || (backTo pos (starEach es env)).any (·.1)) = false
    rw [star_any h.2]; rfl
theorem mk_nil : PA X [] (canK C pNil) := pa_nil.up fun σ H Q ⟨ts, vs, e, P, ⟨S, R⟩, h, k⟩ => k S [] e [] H R .nil h
theorem mk_cons {es : List Expr} {r : pA} (n : notStar a = true) (ha : PE X a (canE C pa)) (hr : PA X es (canK C r)) : PA X (a :: es) (canK C (pCons pa r)) :=
  (pa_cons ha hr (star_cons n)).up fun σ H Q ⟨ts, vs, e, P, R, h, k⟩ => useF R h fun d e1 v H1 R1 h1 => ⟨_, _, e1, _, R1, h1, fun S ds e' ws H' R' rs h' => k S (d :: ds) e' (v :: ws) H' R'.pop (.cons R'.topV rs) h'⟩
theorem ml_of {es : List Expr} {r : pA} (h : PA X es (canK C r)) : PA X es (canL C r) := h.up fun σ H Q ⟨ts, vs, e, P, R, h, k⟩ => ⟨ts, vs, e, P, R, h, fun S ds e' ws H' R' rs h' => k S ds e' ws H' R' rs.ra h'⟩
theorem ml_last (n : notStar a = true) (ha : PE X a (canP C q)) : PA X [a] (canL C (pLast q)) :=
  (pa_cons ha pa_nil (star_cons n)).up fun σ H Q ⟨ts, vs, e, P, R, h, k⟩ => useP R h fun S d e1 v H1 R1 rd h1 => k S [d] e1 [v] H1 R1 (.cons rd .nil) h1
theorem ml_cons {es : List Expr} {r : pA} (n : notStar a = true) (ha : PE X a (canE C pa)) (hr : PA X es (canL C r)) : PA X (a :: es) (canL C (pCons pa r)) :=
  (pa_cons ha hr (star_cons n)).up fun σ H Q ⟨ts, vs, e, P, R, h, k⟩ => useF R h fun d e1 v H1 R1 h1 => ⟨_, _, e1, _, R1, h1, fun S ds e' ws H' R' rs h' => k S (d :: ds) e' (v :: ws) H' R'.pop (.cons (.inl R'.topV) rs) h'⟩
theorem me_tup {es : List Expr} {r : pA} {x1} (h : PA X es (canK C r)) : PE X (.Tuple es x1 pos) (canE C (pTup r)) :=
  (pe_tup h).up fun σ H Q ⟨ts, vs, e, P, R, h, k⟩ => ⟨ts, vs, e, _, R, h, fun S ds e' ws H' R' rs ⟨h1, h2⟩ => ⟨by rw [← rs.length]; exact h1, fun p hp => k _ e' _ _ ⟨_, R'.pushT hp rs⟩ h2⟩⟩
theorem me_lst {es : List Expr} {r : pA} (h : PA X es (canK C r)) : PE X (.List es pos) (canE C (pLst r)) :=
  (pe_lst h).up fun σ H Q ⟨ts, vs, e, P, R, h, k⟩ => ⟨ts, vs, e, _, R, h, fun S ds e' ws H' R' rs ⟨h1, h2⟩ => ⟨by rw [← rs.length]; exact h1, fun p hp => k _ e' _ _ ⟨_, R'.pushL hp rs⟩ h2⟩⟩
theorem me_blt {es : List Expr} {r : pA} {bl : Blt} {t : List V → Hp → VK → Prop} (hr : t = canA C.K C.mg (bltB bl)) (hx : ∀ ta, PA X es ta → PE X ex (tCB t ta)) (h : PA X es (canL C r)) : PE X ex (canE C (pBlt bl r)) :=
  (hx _ h).up fun σ H Q ⟨ts, vs, e, P, R, h, k⟩ => ⟨ts, vs, e, _, R, h, fun S ds e' ws H' R' rs h' => by
    rw [hr]
    exact ⟨S, ds, _, R'.sub, rs, h', fun z v H2 res hz => k z e' v H2 (Rep.res R' res) hz⟩⟩

/-! ### items, slices -/
theorem me_ixN {i : Nat} {op : R2} (hr : op = can2 C.K C.mg itemB) (h : ∀ tb, PE X b tb → PE X ex (tOp op (tVar i) tb)) (hb : PE X b (canP C q)) : PE X ex (canE C (pIxN i q)) :=
  (h _ hb).up fun σ H Q ⟨ts, vs, e, P, ⟨S, R⟩, ⟨⟨sv, hs⟩, h⟩, k⟩ => by
    obtain ⟨v, h1, _⟩ := R.slot i _ hs
    refine ⟨v, h1, useP ⟨S, R⟩ h fun S1 y e1 w H1 R1 ry h2 => ?_⟩
    rw [hr]
    have fin : ∀ {d v'}, σ[i]? = some (some v') → Ra C.K C.mg S1 H1 d v' → itemB d y (fun z => P z e1) → can2 C.K C.mg itemB v w H1 Q := fun {d v'} hv rd hi => by
      rw [h1] at hv; cases hv
      exact ⟨S1, d, y, _, R1.sub, rd, ry, hi, fun z v' H' res hz => k z e1 v' H' (Rep.res R1 res) hz⟩
    unfold pPk at h2
    split at h2
    · rename_i d q
      obtain ⟨v2, h3, h4⟩ := R1.slot i _ q
      exact fin h3 (.inl h4) h2
    · rename_i m q
      obtain ⟨v2, h3, h4⟩ := R1.look (m := .lst m) q rfl ⟨_, rfl⟩
      exact fin h3 h4 h2
    · rename_i m q
      obtain ⟨v2, h3, h4⟩ := R1.look (m := .lst m) q rfl ⟨_, rfl⟩
      exact fin h3 h4 h2
    · exact h2.elim
theorem mo_none : PO X none (canO C (pPart none)) := po_none.up fun σ H Q ⟨ts, vs, e, P, R, h, k⟩ => k none e H R h
theorem mo_some (ha : PE X a (canE C pa)) : PO X (some a) (canO C (pPart (some pa))) := (po_some ha).up fun σ H Q ⟨ts, vs, e, P, R, h, k⟩ => ⟨ts, vs, e, _, R, h, fun sv e' v H' ⟨S, R'⟩ h' => by
  split at h'
  · have r := R'.topV
    cases r
    exact ⟨_, rfl, k _ e' H' ⟨S, R'.pop⟩ h'⟩
  · exact h'.elim⟩
theorem me_slice {lo hi : Option Expr} {plo phi : Option pE} {t : V → Option Int → Option Int → Hp → VK → Prop} (hr : t = canSl C.K C.mg) (h : ∀ ta tl th, PE X a ta → PO X lo tl → PO X hi th → PE X ex (tSl t ta tl th))
    (ha : PE X a (canE C pa)) (hl : PO X lo (canO C (pPart plo))) (hh : PO X hi (canO C (pPart phi))) : PE X ex (canE C (pSl pa plo phi)) :=
  (h _ _ _ ha hl hh).up fun σ H Q ⟨ts, vs, e, P, R, h, k⟩ => useF R h fun x e1 v H1 R1 h1 => ⟨_, _, e1, _, R1, h1, fun l e2 H2 R2 h2 => ⟨_, _, e2, _, R2, h2, fun u e3 H3 ⟨S, R3⟩ h3 => by
    rw [hr]
    exact ⟨S, x, _, R3.sub, .inl R3.topV, h3, fun z v' H' res hz => k z e3 v' H' (Rep.res R3.pop res) hz⟩⟩⟩
theorem me_sliceN {i : Nat} {lo hi : Option Expr} {plo phi : Option pE} {t : V → Option Int → Option Int → Hp → VK → Prop} (hr : t = canSl C.K C.mg) (h : ∀ tl th, PO X lo tl → PO X hi th → PE X ex (tSl t (tVar i) tl th))
    (hl : PO X lo (canO C (pPart plo))) (hh : PO X hi (canO C (pPart phi))) : PE X ex (canE C (pSlN i plo phi)) :=
  (h _ _ hl hh).up fun σ H Q ⟨ts, vs, e, P, ⟨S, R⟩, ⟨⟨sv, hs⟩, h⟩, k⟩ => by
    obtain ⟨v, h1, _⟩ := R.slot i _ hs
    refine ⟨v, h1, ts, vs, e, _, ⟨S, R⟩, h, fun l e2 H2 R2 h2 => ⟨_, _, e2, _, R2, h2, fun u e3 H3 ⟨S1, R1⟩ h3 => ?_⟩⟩
    rw [hr]
    have fin : ∀ {d v'}, σ[i]? = some (some v') → Ra C.K C.mg S1 H3 d v' → sliceB d l u (fun z => P z e3) → canSl C.K C.mg v l u H3 Q := fun {d v'} hv rd hi => by
      rw [h1] at hv; cases hv
      exact ⟨S1, d, _, R1.sub, rd, hi, fun z v' H' res hz => k z e3 v' H' (Rep.res R1 res) hz⟩
    unfold pPk at h3
    split at h3
    · rename_i d q
      obtain ⟨v2, h3', h4⟩ := R1.slot i _ q
      exact fin h3' (.inl h4) h3
    · rename_i m q
      obtain ⟨v2, h3', h4⟩ := R1.look (m := .lst m) q rfl ⟨_, rfl⟩
      exact fin h3' h4 h3
    · rename_i m q
      obtain ⟨v2, h3', h4⟩ := R1.look (m := .lst m) q rfl ⟨_, rfl⟩
      exact fin h3' h4 h3
    · exact h3.elim
end
end PL
set_option Elab.async false
set_option linter.all false
set_option maxRecDepth 100000
set_option maxHeartbeats 4000000
/-! PL4: targets, what a for walks, statements, comprehensions, methods of lists. -/
namespace PL
open PySem PySem.Spec PyProof.Rows L2

section
variable {X : Cx} {C : Cfg} {a b c ex : Expr} {pos : Pos} {pa pb pc p : pE} {q : pV}
/-! ### targets -/
theorem mg_name {ρ : L2.St → L2.St → Prop} {i : Nat} (h : PG X a (gName i)) (hr : ∀ σ v, ρ σ (σ.set i (some v))) : PG X a (canG C ρ (gP i)) := h.up fun v σ H Q ⟨sv, ts, vs, e, P, ⟨S, R⟩, ⟨hn, h⟩, k⟩ => k _ _ H ⟨S, R.store⟩ (hr σ v) h
theorem useG {ρ : L2.St → L2.St → Prop} {g : pG} {σ : L2.St} {H : Hp} {Q : L2.St → Hp → Prop} {ts : List Sv} {vs : List V} {e : PEnv} {P : PEnv → Prop} {sv : Sv} {v : V} (R : Rep C (sv :: ts) (v :: vs) e σ H) (h : g sv e P) (k : ∀ e' σ' H', Rep C ts vs e' σ' H' → ρ σ σ' → P e' → Q σ' H') : canG C ρ g v σ H Q := ⟨sv, ts, vs, e, P, R, h, k⟩
theorem mgs_nil {ρ : L2.St → L2.St → Prop} (hr : RhoOk ρ) : PGs X [] (canGs C ρ gsNil) := pgs_nil.up fun ws σ H Q ⟨ds, ts, vs, e, P, hl, R, ⟨e1, h⟩, k⟩ => by
  subst e1
  have : ws = [] := List.length_eq_zero_iff.mp hl
  subst this
  exact ⟨rfl, k e σ H R (hr.refl σ) h⟩
theorem mgs_cons {ρ : L2.St → L2.St → Prop} (hr : RhoOk ρ) {es : List Expr} {g : pG} {gs : pGs} (n : notStar a = true) (h1 : PG X a (canG C ρ g)) (h2 : PGs X es (canGs C ρ gs)) : PGs X (a :: es) (canGs C ρ (gsCons g gs)) :=
  (pgs_cons h1 h2 (by cases a <;> first | rfl | cases n)).up fun ws σ H Q ⟨ds, ts, vs, e, P, hl, R, h, k⟩ => by
    unfold gsCons at h
    split at h
    · rename_i d r
      cases ws with
      | nil => simp at hl
      | cons w ws =>
        refine ⟨w, ws, rfl, useG (ts := r.map .val ++ ts) (vs := ws ++ vs) (show Rep C (.val d :: (r.map .val ++ ts)) (w :: (ws ++ vs)) e σ H from R) h fun e1 σ1 H1 R1 r1 h1 => ?_⟩
        exact ⟨r, ts, vs, e1, P, by simpa using hl, R1, h1, fun e' σ' H' R' r' h' => k e' σ' H' R' (hr.trans r1 r') h'⟩
    · exact h.elim
theorem pushAll {S H : Hp} {e : PEnv} {σ : L2.St} : ∀ {ds : List D} {ws : List V} {ts : List Sv} {vs : List V}, RpL C.K C.mg S ds ws → RepAt C S ts vs e σ H → RepAt C S (ds.map .val ++ ts) (ws ++ vs) e σ H
  | _, _, _, _, .nil, R => R
  | _, _, _, _, .cons r t, R => (pushAll t R).pushV r
theorem noStar_find {env : Env} : ∀ {es : List Expr}, es.all notStar = true → (assignEach es env).findIdx? (·.1) = none ∧ (assignEach es env).length = es.length
  | [], _ => ⟨rfl, rfl⟩
  | e :: es, h => by
    rw [List.all_cons, Bool.and_eq_true] at h
    obtain ⟨h1, h2⟩ := noStar_find (env := env) h.2
    have e1 : assignEach (e :: es) env = (false, assign e env) :: assignEach es env := by
      have := h.1
      cases e <;> first | rfl | cases this
    rw [e1]
    refine ⟨?_, by simp [h2]⟩
    rw [List.findIdx?_cons]
    simp [h1]
/-- what the gap says of a list's items -/
theorem mg_tup {ρ : L2.St → L2.St → Prop} {es : List Expr} {kk : Nat} {gs : pGs} (hc : X.calm = true) (n : es.all notStar = true) (hK : X.K = C.K) (h : PGs X es (canGs C ρ gs)) : PG X (.Tuple es kk pos) (canG C ρ (gTL es.length gs)) := by
  obtain ⟨n1, n2⟩ := noStar_find (env := X.env) n
  refine ⟨fun pins s σ H v u Q I r ⟨sv, ts, vs, e, P, R, ⟨d, ds, h1, h2, h3, hg⟩, k⟩ => ?_⟩
  obtain ⟨S, R1⟩ := R.fz h1
  have go : ∀ {xs : List V}, RpL C.K C.mg S ds xs → canGs C ρ gs xs σ H Q := fun {xs} rs => ⟨ds, _, _, e, P, rs.length.symm, ⟨S, pushAll rs R1⟩, hg, fun e' σ' H' ⟨S', R'⟩ r' h' => k e' σ' H' ⟨S', R'.pop⟩ r' h'⟩
  have rd := R1.topV
  unfold D.items at h2
  split at h2
  · cases h2
    cases rd with
    | tup sq rs =>
      exact (pg_tup (n := es.length) hc h n2 n1).run pins s σ H _ u Q I r ⟨_, _, rfl, by rw [hK]; exact R1.sub.tup sq, by rw [← rs.length]; exact h3, go rs⟩
  · cases h2
    cases rd with
    | lst sq rs =>
      exact (pg_lst (n := es.length) hc h n2 n1).run pins s σ H _ u Q I r ⟨_, _, rfl, SqL.of (R1.sub _ _ sq), by rw [← rs.length]; exact h3, go rs⟩
  · cases h2
    cases rd with
    | lsq sq rs =>
      exact (pg_lst (n := es.length) hc h n2 n1).run pins s σ H _ u Q I r ⟨_, _, rfl, by rw [hK]; exact R1.sub.seq sq, by rw [← rs.length]; exact h3, go rs⟩
  · cases h2
theorem heldL_is {sv : Sv} {ds : List D} (h : heldL sv = some ds) : isHeld sv (.lst ds) := by
  unfold heldL at h
  split at h
  · cases h; rfl
  · cases h; rfl
  · cases h
/-- the address of the object that a slot holds -/
theorem RepAt.addr {S : Hp} {ts : List Sv} {vs : List V} {e : PEnv} {σ : L2.St} {H : Hp} {i : Nat} {sv : Sv} {ds : List D} (R : RepAt C S ts vs e σ H) (q : e[i]? = some (some sv)) (hl : heldL sv = some ds) :
    ∃ p xs, σ[i]? = some (some (.ref p)) ∧ H p = some (.lst xs) ∧ RpL C.K C.mg S ds xs ∧ ∀ ds' xs', RpL C.K C.mg S ds' xs' → RepAt C S ts vs (e.set i (some (reHold sv (.lst ds')))) σ (upd H p (.lst xs')) := by
  obtain ⟨p, h1, ⟨xs, h2, h3⟩, k⟩ := R.change q (heldL_is hl)
  exact ⟨p, xs, h1, h2, h3, fun ds' xs' rs => k _ _ ⟨xs', upd_same, rs⟩⟩
theorem mg_ix {ρ : L2.St → L2.St → Prop} (hr : RhoOk ρ) {i : Nat} (h : ∀ ti, PE X b ti → PG X ex (gSub (tVar i) ti rSetL)) (hb : PE X b (canE C pb)) : PG X ex (canG C ρ (gIx i pb)) :=
  (h _ hb).up fun v σ H Q ⟨sv, ts, vs, e, P, R, ⟨d, h1, ⟨s0, hs0, _⟩, h2⟩, k⟩ => by
    obtain ⟨S, R1⟩ := R.fz h1
    obtain ⟨o, ho, _⟩ := R1.slot i _ hs0
    refine ⟨o, ho, useF ⟨S, R1⟩ h2 fun kd e1 w H1 ⟨S1, R2⟩ ⟨s1, ds, z, j, q1, q2, q3, q4, hP⟩ => ?_⟩
    subst q3
    have rw1 := R2.topV
    cases rw1
    have R3 := R2.pop
    obtain ⟨p, xs, ha, hx, rs, kk⟩ := R3.addr q1 q2
    rw [ho] at ha; cases ha
    refine ⟨p, xs, z, j, rfl, rfl, hx, by rw [← rs.length]; exact q4, ?_⟩
    exact k _ σ _ ⟨S1, (kk _ _ (rs.set R3.topV j)).pop⟩ (hr.refl σ) hP

/-! ### what a for walks -/
theorem wk_list {K : PySem.W.Frag} {p : Addr} {ds : List D} (hK : K = C.K) : Wk C (Itl K p) ds [.val (.lst ds)] [.ref p] where
  len := rfl
  go := fun i R hi => by
    have r := R.topV
    cases r with
    | lst sq rs =>
      obtain ⟨v, h1, h2⟩ := rs.get (i := i) (d := ds[i]) (by simp [hi])
      exact ⟨_, v, SqL.of (R.sub _ _ sq), h1⟩
  stop := fun R => by
    have r := R.topV
    cases r with
    | lst sq rs => exact ⟨_, SqL.of (R.sub _ _ sq), by rw [rs.length]; exact Nat.le_refl _⟩
  yld := fun i x H' d R hy hd => by
    have r := R.topV
    cases r with
    | lst sq rs =>
      obtain ⟨e, hy⟩ := hy
      subst e
      obtain ⟨v, h1, h2⟩ := rs.get hd
      have := hy _ (SqL.of (R.sub _ _ sq))
      rw [h1] at this; cases this
      exact .same h2
theorem wk_lsq {K : PySem.W.Frag} {p : Addr} {ds : List D} (hK : K = C.K) : Wk C (Itl K p) ds [.val (.lsq ds)] [.ref p] where
  len := rfl
  go := fun i R hi => by
    subst hK
    have r := R.topV
    cases r with
    | lsq sq rs =>
      obtain ⟨v, h1, h2⟩ := rs.get (i := i) (d := ds[i]) (by simp [hi])
      exact ⟨_, v, R.sub.seq sq, h1⟩
  stop := fun R => by
    subst hK
    have r := R.topV
    cases r with
    | lsq sq rs => exact ⟨_, R.sub.seq sq, by rw [rs.length]; exact Nat.le_refl _⟩
  yld := fun i x H' d R hy hd => by
    subst hK
    have r := R.topV
    cases r with
    | lsq sq rs =>
      obtain ⟨e, hy⟩ := hy
      subst e
      obtain ⟨v, h1, h2⟩ := rs.get hd
      have := hy _ (R.sub.seq sq)
      rw [h1] at this; cases this
      exact .same h2
theorem wk_tup {K : PySem.W.Frag} {p : Addr} {ds : List D} (hK : K = C.K) : Wk C (Itt K p) ds [.val (.tup ds)] [.ref p] where
  len := rfl
  go := fun i R hi => by
    subst hK
    have r := R.topV
    cases r with
    | tup sq rs =>
      obtain ⟨v, h1, h2⟩ := rs.get (i := i) (d := ds[i]) (by simp [hi])
      exact ⟨_, v, R.sub.tup sq, h1⟩
  stop := fun R => by
    subst hK
    have r := R.topV
    cases r with
    | tup sq rs => exact ⟨_, R.sub.tup sq, by rw [rs.length]; exact Nat.le_refl _⟩
  yld := fun i x H' d R hy hd => by
    subst hK
    have r := R.topV
    cases r with
    | tup sq rs =>
      obtain ⟨e, hy⟩ := hy
      subst e
      obtain ⟨v, h1, h2⟩ := rs.get hd
      have := hy _ (R.sub.tup sq)
      rw [h1] at this; cases this
      exact .same h2
theorem wk_str {z : Str} : Wk C (Its z) (z.cps.toList.map fun c => .str ⟨#[c]⟩) [] [] where
  len := rfl
  go := fun i R hi => by show i < z.cps.size; simpa using hi
  stop := fun R => by show z.cps.size ≤ _; simp
  yld := fun i x H' d R hy hd => by
    obtain ⟨e, c, h1, h2⟩ := hy
    subst e; subst h2
    rw [List.getElem?_map] at hd
    have e : z.cps.toList[i]? = some c := by simpa using h1
    rw [e] at hd; cases hd
    exact .same (.str _)
theorem wk_range {lo : Int} {n : Nat} : Wk C (Itr lo n) (rangeD lo n) [] [] where
  len := rfl
  go := fun i R hi => by show i < n; simpa [rangeD] using hi
  stop := fun R => by show n ≤ _; simp [rangeD]
  yld := fun i x H' d R hy hd => by
    obtain ⟨e, h2⟩ := hy
    subst e; subst h2
    unfold rangeD at hd
    rw [List.getElem?_map] at hd
    by_cases hi : i < n
    · rw [List.getElem?_range hi] at hd
      cases hd
      exact .same (.int _)
    · rw [List.getElem?_eq_none (by simpa using hi)] at hd; cases hd
/-- a value that is walked: a tuple, a list, a text -/
theorem mi_val {tg : Expr} (hK : X.K = C.K) (ha : PE X a (canE C pa)) : PI X tg a (canI C (iVal pa)) := by
  refine ⟨fun pins s σ H R I ⟨ts, vs, e, P, R0, h, k⟩ => ?_⟩
  have h' : canE C pa σ H (fun x H1 => ((∃ p, x = .ref p ∧ (∃ xs, SqL X.K H1 p xs) ∧ R (Itl X.K p) H1) ∨ (∃ p, x = .ref p ∧ (∃ xs, SqT X.K H1 p xs) ∧ R (Itt X.K p) H1)) ∨ ∃ z, x = .str z ∧ R (Its z) H1) := useF R0 h fun d e1 v H1 ⟨S, R1⟩ hd => by
    split at hd
    · have r := R1.topV
      cases r with
      | tup sq rs => exact .inl (.inr ⟨_, rfl, ⟨_, by rw [hK]; exact R1.sub.tup sq⟩, k _ _ _ _ e1 H1 (show Rep C ([_] ++ ts) ([_] ++ vs) e1 σ H1 from ⟨S, R1⟩) (wk_tup hK) hd⟩)
    · have r := R1.topV
      cases r with
      | lst sq rs => exact .inl (.inl ⟨_, rfl, ⟨_, SqL.of (R1.sub _ _ sq)⟩, k _ _ _ _ e1 H1 (show Rep C ([_] ++ ts) ([_] ++ vs) e1 σ H1 from ⟨S, R1⟩) (wk_list hK) hd⟩)
    · have r := R1.topV
      cases r with
      | lsq sq rs => exact .inl (.inl ⟨_, rfl, ⟨_, by rw [hK]; exact R1.sub.seq sq⟩, k _ _ _ _ e1 H1 (show Rep C ([_] ++ ts) ([_] ++ vs) e1 σ H1 from ⟨S, R1⟩) (wk_lsq hK) hd⟩)
    · have r := R1.topV
      cases r
      exact .inr ⟨_, rfl, k _ _ [] [] e1 H1 ⟨S, R1.pop⟩ wk_str hd⟩
    · exact hd.elim
  refine thn (ha.run pins s σ H _ I h') fun v s1 ⟨x, H1, I1, r1, q1⟩ => ?_
  -- each kind by the kit's own rule, over an expression that gives the value
  have via : ∀ {wi : TI}, (∀ (b : Expr), PE X b (fun σ H Q => Q x H) → PI X tg b wi) → True := fun _ => trivial
  rcases q1 with (⟨p, rfl, ⟨xs, hq⟩, q⟩ | ⟨p, rfl, ⟨xs, hq⟩, q⟩) | ⟨z, rfl, q⟩
  · cases r1
    obtain ⟨its, rv, pl, hz⟩ := I1.list hq
    refine wpAny_pyIter_list pl.isList ?_
    refine ⟨s1.heap.objs.size, [s1.heap.objs.size], _, _, H1, rfl, I1.kept (t' := s1.toks) fun b o e => Heap.get?_push_of_some _ e, turn_list p _, ⟨_, Heap.get?_push_size _ rfl, rfl, rfl⟩, fun b hb => ?_, q⟩
    have e : b = s1.heap.objs.size := by simpa using hb
    subst e
    exact I1.fpOk (Nat.le_refl _) (I1.hok.fresh (Nat.le_refl _))
  · cases r1
    obtain ⟨its, rv, pl, hz⟩ := I1.tuple hq
    refine wpAny_pyIter_tuple (show s1.heap.IsTuple p its.toArray from pl) ?_
    refine ⟨s1.heap.objs.size, [s1.heap.objs.size], _, _, H1, rfl, I1.kept (t' := s1.toks) fun b o e => Heap.get?_push_of_some _ e, turn_tuple p _, ⟨_, Heap.get?_push_size _ rfl, rfl, rfl⟩, fun b hb => ?_, q⟩
    have e : b = s1.heap.objs.size := by simpa using hb
    subst e
    exact I1.fpOk (Nat.le_refl _) (I1.hok.fresh (Nat.le_refl _))
  · obtain ⟨t, rfl⟩ := r1
    cases ha : z.cps.all (· < 128)
    · exact wpAny_pyIter_wide ha (pi_one (tk := s1.toks) I1 _ (turn_str _ z t "str_iterator" (.inr rfl)) ⟨_, Heap.get?_push_size _ rfl, rfl, rfl⟩ q)
    · exact wpAny_pyIter_ascii ha (pi_one (tk := s1.toks) I1 _ (turn_str _ z t "str_ascii_iterator" (.inl rfl)) ⟨_, Heap.get?_push_size _ rfl, rfl, rfl⟩ q)
theorem mi_range1 {tg : Expr} (h : ∀ ta, PA X [a] ta → PI X tg ex (iRng1 ta)) (n : notStar a = true) (ha : PE X a (canE C pa)) : PI X tg ex (canI C (iRange1 pa)) :=
  (h _ (pa_cons ha pa_nil (star_cons n))).up fun σ H R ⟨ts, vs, e, P, R0, h, k⟩ => useF R0 h fun d e1 v H1 ⟨S, R1⟩ ⟨j, e, hb, hP⟩ => by
    subst e
    have r := R1.topV
    cases r
    exact ⟨j, rfl, hb.1, hb.2, k _ _ [] [] e1 H1 ⟨S, R1.pop⟩ wk_range hP⟩
theorem mi_range2 {tg : Expr} (h : ∀ ta, PA X [a, b] ta → PI X tg ex (iRng2 ta)) (n : notStar a = true) (n2 : notStar b = true) (ha : PE X a (canE C pa)) (hb : PE X b (canE C pb)) : PI X tg ex (canI C (iRange2 pa pb)) :=
  (h _ (pa_cons ha (pa_cons hb pa_nil (star_cons n2)) (star_cons n))).up fun σ H R ⟨ts, vs, e, P, R0, h, k⟩ => useF R0 h fun d e1 v H1 R1 h1 => useF R1 h1 fun d2 e2 v2 H2 ⟨S, R2⟩ ⟨i, j, e, e', hb, hP⟩ => by
    subst e; subst e'
    have r := R2.topV
    cases r
    have r := R2.pop.topV
    cases r
    exact ⟨i, j, rfl, hb, k _ _ [] [] e2 H2 ⟨S, R2.pop.pop⟩ wk_range hP⟩
/-! ### enumerate -/
theorem enumD_get {ds : List D} {i : Nat} {d : D} (h : (enumD ds)[i]? = some d) : ∃ x, ds[i]? = some x ∧ d = .tup [.int (i : Nat), x] := by
  unfold enumD at h
  rw [List.getElem?_map] at h
  by_cases hi : i < ds.length
  · rw [List.getElem?_range hi] at h
    simp only [Option.map_some, Option.some.injEq] at h
    refine ⟨ds[i], by simp [hi], ?_⟩
    rw [← h, List.getD_eq_getElem?_getD]
    simp [hi]
  · rw [List.getElem?_eq_none (by simpa using hi)] at h; cases h
theorem enumD_len {ds : List D} : (enumD ds).length = ds.length := by simp [enumD]
theorem wk_enum {p : Addr} {ds : List D} {kd : D} (hk : ∀ {S H : Hp}, Le S H → Rp C.K C.mg S kd (.ref p) → ∃ xs, SqL C.K H p xs ∧ RpL C.K C.mg S ds xs) : Wk C (Ite C.K p) (enumD ds) [.val kd] [.ref p] where
  len := rfl
  go := fun i R hi => by
    obtain ⟨xs, sq, rs⟩ := hk R.sub R.topV
    rw [enumD_len] at hi
    obtain ⟨v, h1, h2⟩ := rs.get (i := i) (d := ds[i]) (by simp [hi])
    exact ⟨_, v, sq, h1⟩
  stop := fun R => by
    obtain ⟨xs, sq, rs⟩ := hk R.sub R.topV
    exact ⟨_, sq, by rw [enumD_len, rs.length]; exact Nat.le_refl _⟩
  yld := fun i x H' d R hy hd => by
    obtain ⟨xs, sq, rs⟩ := hk R.sub R.topV
    obtain ⟨y, h1, rfl⟩ := enumD_get hd
    obtain ⟨T, w, rfl, hT, rfl, hw⟩ := hy
    obtain ⟨v, h2, h3⟩ := rs.get h1
    have := hw _ sq
    rw [h2] at this; cases this
    exact .newT hT (.cons (.int _) (.cons h3 .nil))
end
end PL
set_option Elab.async false
set_option linter.all false
set_option maxRecDepth 100000
set_option maxHeartbeats 4000000
/-! PL5: enumerate of a tuple or a list, zip of two tuples or two lists. -/
namespace PL
open PySem PySem.Spec PyProof.Rows L2

theorem meets_enum1 {v : Value} {o : Obj} {H : Heap → Prop} (B : Begins v o H) :
    Meets (Builtin.«enumerate.__new__» ⟨[.type "enumerate", v], []⟩) (fun _ R s => H s.heap ∧
      R (.ok (.ret (.ref (s.heap.push o).objs.size))) { s with heap := (s.heap.push o).push { cls := .type "enumerate", data := .fields #[.none, .bool false, .ref s.heap.objs.size, rawInt 0, .none, .none] } }) :=
  .of_wp fun prog w A R s h => by
    obtain ⟨hp, g, d, tk, os⟩ := s; obtain ⟨h1, h⟩ := h
    have hsub := sub_enumerate
    have q1 : ∀ {A' : Around} {E : Value → Shared → Prop} {Q : Value → Shared → Prop}, Q (.ref hp.objs.size) ⟨hp.push o, g, d, tk, os⟩ → wpAny (model prog w) A' (pyIter v) Q E ⟨hp, g, d, tk, os⟩ :=
      fun q => B.iter prog w _ _ ⟨hp, g, d, tk, os⟩ _ h1 q
    wp_walk using q1
    refine wpAny_stack_any fun st => wpAny_pure ?_
    split
    · rename_i c _ _ _ _ _
      cases (c == Value.type "enumerate")
      · wp_walk using q1
        exact ⟨_, rfl, h⟩
      · wp_walk using q1
        exact ⟨_, rfl, h⟩
    · wp_walk using q1
      exact ⟨_, rfl, h⟩
section
variable {prog : Program} {w : World} {A : Around} {E : Value → Shared → Prop} {s : Shared}
theorem call_enum1 {v : Value} {o : Obj} {H : Heap → Prop} {Q : Value → Shared → Prop} (B : Begins v o H) (h1 : H s.heap)
    (h : ∀ h', IsEnum h' (s.heap.objs.size + 1) s.heap.objs.size 0 .none → h'.get? s.heap.objs.size = some o → h'.objs.size = s.heap.objs.size + 2 →
      (∀ b o, s.heap.get? b = some o → h'.get? b = some o) → Q (.ref (s.heap.objs.size + 1)) { s with heap := h' }) :
    wpAny (model prog w) A (call (.type "enumerate") [v]) Q E s := by
  refine callType_new F.called_enumerate (by decide) (F.typeCall_enumerate_1 _) (F.newCall_enumerate_1 _) (fun obj => F.args_object_init_2 obj _) F.entry_enumerate_new
    (meets_enum1 B) ⟨h1, ?_⟩
  have hz : (s.heap.push o).objs.size = s.heap.objs.size + 1 := Heap.size_push ..
  show _ ∧ _
  rw [hz]
  have he : IsEnum ((s.heap.push o).push { cls := .type "enumerate", data := .fields #[.none, .bool false, .ref s.heap.objs.size, rawInt 0, .none, .none] }) (s.heap.objs.size + 1) s.heap.objs.size 0 .none := by
    have := Heap.get?_push_size (s.heap.push o) (o := { cls := .type "enumerate", data := .fields #[.none, .bool false, .ref s.heap.objs.size, rawInt 0, .none, .none] }) rfl
    rw [hz] at this; exact this
  refine ⟨⟨_, he, rfl⟩, h _ he (Heap.get?_push_of_some _ (Heap.get?_push_size _ B.free)) (by rw [Heap.size_push, hz]) fun b o x => Heap.get?_push_of_some _ (Heap.get?_push_of_some _ x)⟩
end
def IteT (K : PySem.W.Frag) (a : Addr) : It :=
  ⟨fun i H => ∃ (xs : List V) (x : V), SqT K H a xs ∧ xs[i]? = some x, fun i H v H' => ∃ T x, v = .ref T ∧ H T = none ∧ H' = upd H T (.tup [.int (i : Nat), x]) ∧ ∀ xs, SqT K H a xs → xs[i]? = some x, fun i H => ∃ xs : List V, SqT K H a xs ∧ xs.length = i⟩
theorem turn_enumT {P : Program} {w : World} {K : PySem.W.Frag} {elts : List Expr} {kk : Nat} {tpos : Pos} (a e it : Addr) :
    Turn P w K (.Tuple elts kk tpos) (IteT K a) [e, it] e (fun i h => (∃ old, IsEnum h e it ((i : Nat) : Int) old) ∧ h.IsTupleIter it a i ∧ e ≠ it ∧ a ≠ it ∧ a ≠ e) where
  mem := by simp
  obj := fun i h st b hb => by
    obtain ⟨⟨old, he⟩, ⟨o, ho, hc, hd⟩, _⟩ := st
    have e' : b = e ∨ b = it := by simpa using hb
    rcases e' with z | z
    · rw [z]; exact ⟨_, he, fun v q => nomatch q⟩
    · rw [z]; exact ⟨o, ho, fun v q => by rw [hd] at q; cases q⟩
  keep := fun i h h' st k => let ⟨⟨old, he⟩, hi, hne⟩ := st; ⟨⟨old, k e (by simp) _ he⟩, hi.at fun o q => k it (by simp) o q, hne⟩
  item := by
    intro X hP hw hK hc i pins s σ H E I hf st hg
    subst hP hw hK
    obtain ⟨⟨old, he⟩, hit, hne, hai, hae⟩ := st
    obtain ⟨xs, x, hq, hx⟩ := hg
    obtain ⟨its, rv, p, hz⟩ := I.tuple hq
    obtain ⟨u, hu, ru⟩ := rv.get hx
    have hel : e < s.heap.objs.size := Heap.lt_size he
    have hil : it < s.heap.objs.size := by obtain ⟨_, q, _⟩ := hit; exact Heap.lt_size q
    have ht : s.heap.IsTuple a its.toArray := p
    have hlt : i < its.toArray.size := by
      have := (List.getElem?_eq_some_iff.mp hu).1
      simpa using this
    refine wpAny_pyNext_enum_itemD (Draws.tuple (A := X.A.in1) (I.ok.hd hc) it a hai its.toArray) he ⟨hit, ht⟩ hlt hne (by simp [hne, Ne.symm hae]) fun v h' tk hv ho hst hT hsz hk => ?_
    have hvu : v = u := by
      have : its.toArray[i]? = some u := by simpa using hu
      rw [this] at hv; cases hv; rfl
    subst hvu
    refine ⟨_, rfl, wpAny_letOwnedTupleGo_enum (s := { s with heap := h', toks := tk + 1 }) ho fun h'' he' sb => ?_⟩
    have hT2 : h''.get? s.heap.objs.size = some { cls := .type "tuple", data := .seq #[.int i tk, v] } := (sb.2 _ (Nat.ne_of_gt hel)).trans hT
    have new : ObjOk X.prog X.w (upd H s.heap.objs.size (.tup [.int (i : Nat), x])) h'' s.heap.objs.size (.tup [.int (i : Nat), x]) :=
      ⟨by show 2 ≤ sizeLine; decide, [.int i tk, v], .cons ⟨_, rfl⟩ (.cons ru .nil), ⟨_, hT2, rfl, _, rfl⟩⟩
    have I1 : Inv X pins σ (upd H s.heap.objs.size (.tup [.int (i : Nat), x])) { s with heap := h'', toks := tk + 1 } :=
      I.turnedNew (ch := [e, it]) (fun b ob hb q => (sb.2 b (fun z => hb (by simp [z]))).trans (hk b ob (fun z => hb (by simp [z])) (fun z => hb (by simp [z])) q)) hf (Nat.le_refl _) new
    refine ⟨.ref s.heap.objs.size, _, I1, rfl, ⟨_, x, rfl, I.hok.fresh (Nat.le_refl _), rfl, fun ys hy => by rw [I.tuple_inj hy hq]; exact hx⟩, ⟨⟨v, ?_⟩, hst.1.at fun o q => (sb.2 it (Ne.symm hne)).trans q, hne, hai, hae⟩, fun b hb => ?_⟩
    · have e1 : ((i + 1 : Nat) : Int) = (i : Int) + 1 := by omega
      rw [e1]; exact he'
    · have hb' : b < s.heap.objs.size := by
        have e' : b = e ∨ b = it := by simpa using hb
        rcases e' with z | z
        · rw [z]; exact hel
        · rw [z]; exact hil
      rw [upd_ne (Nat.ne_of_lt hb')]
      exact (hf b hb).1
  done := by
    intro X hP hw hK hc i pins s σ H E I hf st hg
    subst hP hw hK
    obtain ⟨⟨old, he⟩, hit, hne, hai, hae⟩ := st
    obtain ⟨xs, hq, hx⟩ := hg
    obtain ⟨its, rv, p, hz⟩ := I.tuple hq
    obtain ⟨f0, f1, f2, f3, f4, f5⟩ := hf it (by simp)
    have hl := rv.length
    have ht : s.heap.IsTuple a its.toArray := p
    have D := Draws.tuple (A := X.A.in1) (prog := X.prog) (w := X.w) (I.ok.hd hc) it a hai its.toArray
    have hn : its.toArray.size = i := by simp; omega
    rw [hn] at D
    exact wpAny_pyNext_enum_endD D he ⟨hit, ht⟩ fun h' eb => ⟨rfl, I.turned (t' := s.toks) (fun b o hb q => eb b o hb q) f0 f1 f3 f4 f5⟩
  self := fun A i s Q E st h => let ⟨⟨_, he⟩, _⟩ := st; wpAny_pyIter_enum he h
theorem pi_enumT {X : Cx} {e : Expr} {ta : TA} {p pos tpos : Pos} {elts : List Expr} {kk : Nat} (hg : Gl X "enumerate") (hm : X.mg "enumerate" = none) (ha : PA X [e] ta) (hs : starEach [e] X.env = [(false, eval e X.env)]) :
    PI X (.Tuple elts kk tpos) (.Call (.Name "enumerate" p) [e] [] pos) (fun σ H R => ta σ H fun vs H1 => ∃ a, vs = [.ref a] ∧ ((∃ xs, SqL X.K H1 a xs ∧ R (Ite X.K a) H1) ∨ (∃ xs, SqT X.K H1 a xs ∧ R (IteT X.K a) H1))) := by
  refine ⟨fun pins s σ H R I h => ?_⟩
  refine Call_ (ld_blt I hg hm boot_enumerate (PyProof.Rows.callWith_type1 (thn (ha.run pos pins s σ H _ I h) fun us s1 ⟨vs, H1, I1, r1, q1⟩ => ?_) hs rfl))
  obtain ⟨a, ex, q1⟩ := q1
  subst ex
  cases r1 with
  | cons r rr =>
    cases rr
    cases r
    have fp : ∀ b, b ∈ [s1.heap.objs.size + 1, s1.heap.objs.size] → FpOk X pins H1 b := fun b hb => by
      have e' : b = s1.heap.objs.size + 1 ∨ b = s1.heap.objs.size := by simpa using hb
      have hle : s1.heap.objs.size ≤ b := by
        rcases e' with z | z
        · rw [z]; exact Nat.le_add_right _ _
        · rw [z]; exact Nat.le_refl _
      exact I1.fpOk hle (I1.hok.fresh hle)
    rcases q1 with ⟨xs, hq, q⟩ | ⟨xs, hq, q⟩
    · obtain ⟨its, rv, p', hz⟩ := I1.list hq
      refine call_enumerate_list p'.isList fun h' he hit hsz hk => wpAny_pyIter_enum he ?_
      have I2 : Inv X pins σ H1 { s1 with heap := h' } := I1.kept (t' := s1.toks) hk
      exact ⟨s1.heap.objs.size + 1, [s1.heap.objs.size + 1, s1.heap.objs.size], _, _, H1, rfl, I2, turn_enum a (s1.heap.objs.size + 1) s1.heap.objs.size, ⟨⟨.none, he⟩, hit, Nat.succ_ne_self _⟩, fp, q⟩
    · obtain ⟨its, rv, p', hz⟩ := I1.tuple hq
      have hlt : a < s1.heap.objs.size := p'.lt
      refine call_enum1 (begins_tuple a its.toArray) p' fun h' he ho hsz hk => wpAny_pyIter_enum he ?_
      have I2 : Inv X pins σ H1 { s1 with heap := h' } := I1.kept (t' := s1.toks) hk
      exact ⟨s1.heap.objs.size + 1, [s1.heap.objs.size + 1, s1.heap.objs.size], _, _, H1, rfl, I2, turn_enumT a (s1.heap.objs.size + 1) s1.heap.objs.size, ⟨⟨.none, he⟩, ⟨_, ho, rfl, rfl⟩, Nat.succ_ne_self _, Nat.ne_of_lt hlt, Nat.ne_of_lt (Nat.lt_succ_of_lt hlt)⟩, fp, q⟩
section
variable {X : Cx} {C : Cfg} {a b c ex : Expr} {pos : Pos} {pa pb pc p : pE} {q : pV}
theorem wk_enumT {p : Addr} {ds : List D} : Wk C (IteT C.K p) (enumD ds) [.val (.tup ds)] [.ref p] where
  len := rfl
  go := fun i R hi => by
    have r := R.topV
    cases r with
    | tup sq rs =>
      rw [enumD_len] at hi
      obtain ⟨v, h1, h2⟩ := rs.get (i := i) (d := ds[i]) (by simp [hi])
      exact ⟨_, v, R.sub.tup sq, h1⟩
  stop := fun R => by
    have r := R.topV
    cases r with
    | tup sq rs => exact ⟨_, R.sub.tup sq, by rw [enumD_len, rs.length]⟩
  yld := fun i x H' d R hy hd => by
    have r := R.topV
    cases r with
    | tup sq rs =>
      obtain ⟨y, h1, rfl⟩ := enumD_get hd
      obtain ⟨T, w, rfl, hT, rfl, hw⟩ := hy
      obtain ⟨v, h2, h3⟩ := rs.get h1
      have := hw _ (R.sub.tup sq)
      rw [h2] at this; cases this
      exact .newT hT (.cons (.int _) (.cons h3 .nil))
theorem mi_enumP {elts : List Expr} {kk : Nat} {tpos p : Pos} (hK : X.K = C.K) (hg : Gl X "enumerate") (hm : X.mg "enumerate" = none) (n : notStar a = true) (ha : PE X a (canE C pa)) : PI X (.Tuple elts kk tpos) (.Call (.Name "enumerate" p) [a] [] pos) (canI C (iEnumP pa)) :=
  (pi_enumT hg hm (pa_cons ha pa_nil (star_cons n)) (star_cons n)).up fun σ H R ⟨ts, vs, e, P, R0, h, k⟩ => useF R0 h fun d e1 v H1 ⟨S, R1⟩ ⟨ds, hd, hP⟩ => by
    rw [hK]
    have r := R1.topV
    unfold D.items at hd
    split at hd
    · cases hd
      cases r with
      | tup sq rs => exact ⟨_, rfl, .inr ⟨_, R1.sub.tup sq, k _ _ [_] [_] e1 H1 (show Rep C ([_] ++ ts) ([_] ++ vs) e1 σ H1 from ⟨S, R1⟩) wk_enumT hP⟩⟩
    · cases hd
      cases r with
      | lst sq rs => exact ⟨_, rfl, .inl ⟨_, SqL.of (R1.sub _ _ sq), k _ _ [_] [_] e1 H1 (show Rep C ([_] ++ ts) ([_] ++ vs) e1 σ H1 from ⟨S, R1⟩) (wk_enum fun l r => by cases r with | lst sq rs => exact ⟨_, SqL.of (l _ _ sq), rs⟩) hP⟩⟩
    · cases hd
      cases r with
      | lsq sq rs => exact ⟨_, rfl, .inl ⟨_, R1.sub.seq sq, k _ _ [_] [_] e1 H1 (show Rep C ([_] ++ ts) ([_] ++ vs) e1 σ H1 from ⟨S, R1⟩) (wk_enum fun l r => by cases r with | lsq sq rs => exact ⟨_, l.seq sq, rs⟩) hP⟩⟩
    · cases hd
end
end PL
set_option Elab.async false
set_option linter.all false
set_option maxRecDepth 100000
set_option maxHeartbeats 4000000
/-! PL6: statements, loops, comprehensions, methods of lists, fields, isinstance. -/
namespace PL
open PySem PySem.Spec PyProof.Rows L2

section
variable {X : Cx} {C : Cfg} {a b c ex : Expr} {pos : Pos} {pa pb pc p : pE} {q : pV} {st : Stmt} {sts : List Stmt} {s1 s2 : pS} {pt : pT} {g : pG}
/-- the ends of a statement -/
structure EndsOk (C : Cfg) (ts : List Sv) (vs : List V) (Q : pEnds) (Dn : Ends) : Prop where
  nx : ∀ e' σ' H', Rep C ts vs e' σ' H' → Q.nx e' → Dn.nx σ' H'
  rt : ∀ sv e' v σ' H', Rep C (sv :: ts) (v :: vs) e' σ' H' → Q.rt sv e' → Dn.rt v H'
  bk : ∀ e' σ' H', Rep C ts vs e' σ' H' → Q.bk e' → Dn.bk σ' H'
  ct : ∀ e' σ' H', Rep C ts vs e' σ' H' → Q.ct e' → Dn.ct σ' H'
theorem useS {p : pS} {Dn : Ends} {σ : L2.St} {H : Hp} {ts : List Sv} {vs : List V} {e : PEnv} {Q : pEnds} (R : Rep C ts vs e σ H) (h : p Q e) (k : EndsOk C ts vs Q Dn) : canS C p Dn σ H := ⟨ts, vs, e, Q, R, h, k.nx, k.rt, k.bk, k.ct⟩
theorem S.up {t : TS} {p : pS} (h : PS X st t) (f : ∀ Dn σ H ts vs e Q, Rep C ts vs e σ H → p Q e → EndsOk C ts vs Q Dn → t Dn σ H) : PS X st (canS C p) := h.up fun Dn σ H ⟨ts, vs, e, Q, R, h, k1, k2, k3, k4⟩ => f Dn σ H ts vs e Q R h ⟨k1, k2, k3, k4⟩
theorem B.up {t : TS} {p : pS} (h : PSs X sts t) (f : ∀ Dn σ H ts vs e Q, Rep C ts vs e σ H → p Q e → EndsOk C ts vs Q Dn → t Dn σ H) : PSs X sts (canS C p) := h.up fun Dn σ H ⟨ts, vs, e, Q, R, h, k1, k2, k3, k4⟩ => f Dn σ H ts vs e Q R h ⟨k1, k2, k3, k4⟩
theorem EndsOk.withNx {ts : List Sv} {vs : List V} {Q : pEnds} {Dn : Ends} (k : EndsOk C ts vs Q Dn) {n : PEnv → Prop} {n' : L2.St → Hp → Prop} (h : ∀ e' σ' H', Rep C ts vs e' σ' H' → n e' → n' σ' H') : EndsOk C ts vs { Q with nx := n } { Dn with nx := n' } := ⟨h, k.rt, k.bk, k.ct⟩

theorem mb_nil : PSs X [] (canS C sNext) := B.up pss_nil fun Dn σ H ts vs e Q R h k => k.nx e σ H R h
theorem mb_cons (h1 : PS X st (canS C s1)) (h2 : PSs X sts (canS C s2)) : PSs X (st :: sts) (canS C (sSeq s1 s2)) :=
  B.up (pss_cons h1 h2) fun Dn σ H ts vs e Q R h k => useS R h (k.withNx fun e' σ' H' R' h' => useS R' h' k)
theorem mb_one (h1 : PS X st (canS C s1)) : PSs X [st] (canS C s1) := pss_one h1
theorem ms_pass : PS X (.Pass pos) (canS C sNext) := S.up ps_pass fun Dn σ H ts vs e Q R h k => k.nx e σ H R h
theorem ms_break : PS X (.Break pos) (canS C sBreak) := S.up ps_break fun Dn σ H ts vs e Q R h k => k.bk e σ H R h
theorem ms_continue : PS X (.Continue pos) (canS C sCont) := S.up ps_continue fun Dn σ H ts vs e Q R h k => k.ct e σ H R h
theorem Rep.pop {sv : Sv} {v : V} {ts : List Sv} {vs : List V} {e : PEnv} {σ : L2.St} {H : Hp} (R : Rep C (sv :: ts) (v :: vs) e σ H) : Rep C ts vs e σ H := let ⟨S, R⟩ := R; ⟨S, R.pop⟩
theorem ms_expr (h : ∀ te, PE X a te → PS X st (tDrop te)) (ha : PE X a (canE C pa)) : PS X st (canS C (sDrop pa)) :=
  S.up (h _ ha) fun Dn σ H ts vs e Q R h k => useE R h fun sv e' v H' R' h' => k.nx e' σ H' R'.pop h'
theorem ms_ret (ha : PE X a (canE C pa)) : PS X (.Return (some a) pos) (canS C (sRet pa)) :=
  S.up (ps_ret ha) fun Dn σ H ts vs e Q R h k => useE R h fun sv e' v H' R' h' => k.rt sv e' v σ H' R' h'
theorem ms_retN : PS X (.Return none pos) (canS C (sRet (pC .non))) :=
  S.up ps_retN fun Dn σ H ts vs e Q ⟨S, R⟩ h k => k.rt _ e .non σ H ⟨S, R.pushV .non⟩ h
theorem ms_if {x y : List Stmt} (hc : PT X c (canT C pt)) (ha : PSs X x (canS C s1)) (hb : PSs X y (canS C s2)) : PS X (.If c x y pos) (canS C (sIf pt s1 s2)) :=
  S.up (ps_if hc ha hb) fun Dn σ H ts vs e Q R h k => useT R h fun b e1 H1 R1 h1 => by
    cases b
    · exact useS R1 h1 k
    · exact useS R1 h1 k
theorem ms_asg {tgt : TG} (h : ∀ te, PE X a te → PS X st (tAsg te tgt)) (ht : tgt = canG C anySt g) (ha : PE X a (canE C pa)) : PS X st (canS C (sAsg pa g)) :=
  S.up (h _ ha) fun Dn σ H ts vs e Q R h k => useE R h fun sv e' v H' R' h' => by
    rw [ht]
    exact useG R' h' fun e1 σ1 H1 R1 _ h1 => k.nx e1 σ1 H1 R1 h1
/-- a name's store, where the kit's rule has the name's own target -/
theorem ms_set {i : Nat} (h : ∀ te, PE X a te → PS X st (tAsg te (gName i))) (ha : PE X a (canE C pa)) : PS X st (canS C (sAsg pa (gP i))) :=
  S.up (h _ ha) fun Dn σ H ts vs e Q R h k => useE R h fun sv e' v H' ⟨S, R'⟩ ⟨_, h'⟩ => k.nx _ _ H' ⟨S, R'.store⟩ h'
theorem ms_par {i j : Nat} {r : pA} {x y : Expr} (h : ∀ ta, PA X [x, y] ta → PS X st (tPar i j ta)) (hij : i ≠ j) (ha : PA X [x, y] (canK C r)) : PS X st (canS C (sPar i j r)) :=
  S.up (h _ ha) fun Dn σ H ts vs e Q R h k => ⟨ts, vs, e, _, R, h, fun S ds e' ws H' R' rs h' => by
    split at h'
    · rename_i d1 d2
      cases rs with
      | cons r1 t =>
        cases t with
        | cons r2 t =>
          cases t
          refine ⟨_, _, rfl, ?_⟩
          obtain ⟨_, _, h'⟩ := h'
          exact k.nx _ _ H' ⟨S, (((R'.pushV r2).pushV r1).store.store)⟩ h'
    · exact h'.elim⟩
theorem ms_while {body : List Stmt} (hp : PassesOwn (model X.prog X.w) X.A X.env X.xe) (hc : PT X c (canT C pt)) (hb : PSs X body (canS C s1)) : PS X (.While c body [] pos) (canS C (pWhile pt s1)) :=
  S.up (ps_while hp hc hb) fun Dn σ H ts vs e Q R ⟨W, ⟨m0, w0⟩, turn⟩ k => by
    refine ⟨fun m σ' H' => ∃ e', Rep C ts vs e' σ' H' ∧ W m e', ⟨m0, e, R, w0⟩, fun m σ' H' ⟨e', R', w'⟩ => ?_⟩
    refine useT R' (turn m e' w') fun b e1 H1 R1 h1 => ?_
    cases b
    · exact k.nx e1 σ' H1 R1 h1
    · obtain ⟨N, hN, hb⟩ := h1
      have again : ∀ e2 σ2 H2, Rep C ts vs e2 σ2 H2 → N e2 → (∃ e2, Rep C ts vs e2 σ2 H2 ∧ N e2) := fun e2 _ _ R2 n2 => ⟨e2, R2, n2⟩
      refine ⟨fun σ2 H2 => ∃ e2, Rep C ts vs e2 σ2 H2 ∧ N e2, fun σ2 H2 ⟨e2, R2, n2⟩ => ?_, useS R1 hb ⟨again, k.rt, k.nx, again⟩⟩
      obtain ⟨m', hm, w2⟩ := hN e2 n2
      exact ⟨m', hm, e2, R2, w2⟩
theorem popN {ts kts : List Sv} {vs kvs : List V} {e : PEnv} {σ : L2.St} {H : Hp} {S : Hp} (hl : kts.length = kvs.length) (R : RepAt C S (kts ++ ts) (kvs ++ vs) e σ H) : RepAt C S ts vs e σ H := by
  induction kts generalizing kvs with
  | nil =>
    cases kvs with
    | nil => exact R
    | cons => simp at hl
  | cons t kts ih =>
    cases kvs with
    | nil => simp at hl
    | cons v kvs => exact ih (by simpa using hl) R.pop
theorem ownT_le (a : Addr) : ∀ {kts : List Sv} {kvs : List V}, kts.length = kvs.length → ∀ (ts : List Sv) (vs : List V), ownT a ts vs ≤ ownT a (kts ++ ts) (kvs ++ vs)
  | [], [], _, _, _ => Nat.le_refl _
  | [], _ :: _, h, _, _ => by simp at h
  | _ :: _, [], h, _, _ => by simp at h
  | t :: kts, w :: kvs, h, ts, vs => by
    have := ownT_le a (kts := kts) (kvs := kvs) (by simpa using h) ts vs
    show ownT a ts vs ≤ own1 a t w + ownT a (kts ++ ts) (kvs ++ vs)
    omega
theorem ms_for {tg : Expr} {iter : Expr} {body : List Stmt} {it : pI} (h : ∀ wi gg tb, PI X tg iter wi → PG X tg gg → PSs X body tb → PS X st (tFor wi gg tb)) (hi : PI X tg iter (canI C it)) (hg : PG X tg (canG C anySt g)) (hb : PSs X body (canS C s1)) : PS X st (canS C (pFor it g s1)) :=
  S.up (h _ _ _ hi hg hb) fun Dn σ H ts vs e Q R h k => ⟨ts, vs, e, _, R, h, fun J ds kts kvs e1 H1 R1 wk h1 => by
    refine ⟨fun i m σ' H' => m = ds.length - i ∧ i ≤ ds.length ∧ ∃ e', Rep C (kts ++ ts) (kvs ++ vs) e' σ' H' ∧ forL g s1 (ds.drop i) Q e', ⟨_, rfl, Nat.zero_le _, e1, R1, by rw [List.drop_zero]; exact h1⟩, ?_⟩
    rintro i m σ' H' ⟨rfl, hi, e', ⟨S, R'⟩, h'⟩
    by_cases hlt : i < ds.length
    · have ed : ds.drop i = ds[i] :: ds.drop (i + 1) := List.drop_eq_getElem_cons hlt
      rw [ed] at h'
      refine .inr ⟨wk.go i R' hlt, fun σ2 H2 => ∃ e2, Rep C (kts ++ ts) (kvs ++ vs) e2 σ2 H2 ∧ forL g s1 (ds.drop (i + 1)) Q e2, fun σ2 H2 ⟨e2, R2, h2⟩ => ⟨ds.length - (i + 1), by omega, rfl, hlt, e2, R2, h2⟩, fun x H2 hy => ?_⟩
      have res := wk.yld i x H2 ds[i] R' hy (by simp [hlt])
      obtain ⟨S2, R2⟩ := R'.res res
      refine useG (ts := kts ++ ts) (vs := kvs ++ vs) ⟨S2, R2⟩ h' fun e3 σ3 H3 R3 _ h3 => ?_
      have again : ∀ e2 σ2 H2, Rep C (kts ++ ts) (kvs ++ vs) e2 σ2 H2 → forL g s1 (ds.drop (i + 1)) Q e2 → (∃ e2, Rep C (kts ++ ts) (kvs ++ vs) e2 σ2 H2 ∧ forL g s1 (ds.drop (i + 1)) Q e2) := fun e2 _ _ R2 h2 => ⟨e2, R2, h2⟩
      exact useS R3 h3 ⟨again, fun sv e' v σ' H' ⟨S4, R4⟩ h4 => by
          refine k.rt sv e' v σ' H' ⟨S4, ?_⟩ h4
          have t4 := R4.top
          have R5 := popN wk.len R4.pop
          refine R5.push t4 fun a => ?_
          have d := R4.dist a
          have d : own1 a sv v + ownT a (kts ++ ts) (kvs ++ vs) + ownS a e' σ' ≤ 1 := d
          have le := ownT_le a wk.len ts vs
          omega,
        fun e' σ' H' ⟨S4, R4⟩ h4 => k.nx e' σ' H' ⟨S4, popN wk.len R4⟩ h4, again⟩
    · have ei : i = ds.length := by omega
      subst ei
      rw [List.drop_length] at h'
      exact .inl ⟨wk.stop R', k.nx e' σ' H' ⟨S, popN wk.len R'⟩ h'⟩⟩

/-! ### x[i] += k -/
theorem get_list : PGet X (fun x y H Q => ∃ p xs i v, x = .ref p ∧ y = .int i ∧ 0 ≤ i ∧ H p = some (.lst xs) ∧ atI xs i = some v ∧ Q v H) := by
  intro pins s σ H o i ov iv Q I ro ri h
  obtain ⟨p, xs, k, v, rfl, rfl, h0, hp, he, q⟩ := h
  cases ro
  obtain ⟨t, rfl⟩ := ri
  obtain ⟨its, r, pl, hz⟩ := I.list (SqL.of hp)
  obtain ⟨j, h1, h2, h3, h4, h5⟩ := atI_get he
  obtain ⟨w, ew, rw'⟩ := r.get h2
  have hl := r.length
  have hn := line63
  have hj : k.toNat = j := by
    rw [seqIndex_of h0 h5] at h1
    exact Option.some.inj h1
  exact wpAny_getItem_list pl.isList h0 (by omega) (by rw [hj]; simpa using ew) ⟨v, H, I, rw', q⟩
theorem ms_augIx {i : Nat} (h : ∀ ti te, PE X b ti → PE X c te → PS X st (tAugS (tVar i) ti te (fun x y H Q => ∃ p xs i v, x = .ref p ∧ y = .int i ∧ 0 ≤ i ∧ H p = some (.lst xs) ∧ atI xs i = some v ∧ Q v H) (ipI fun i j => i + j) rSetL)) (hb : PE X b (canE C pb)) (hc : PE X c (canE C pc)) :
    PS X st (canS C (sAugIx i pb pc)) :=
  S.up (h _ _ hb hc) fun Dn σ H ts vs e Q ⟨S0, R⟩ ⟨⟨sv0, hs0, hl0⟩, h⟩ k => by
    obtain ⟨o, ho, _⟩ := R.slot i _ hs0
    refine ⟨o, ho, useF ⟨S0, R⟩ h fun kd e1 w H1 ⟨S1, R1⟩ ⟨z, s1, ds, a, q1, q2, q3, q4, q5, h1⟩ => ?_⟩
    subst q1
    have rw1 := R1.topV
    cases rw1
    have R1 := R1.pop
    obtain ⟨p, xs, ha, hx, rs, _⟩ := R1.addr q3 q4
    rw [ho] at ha; cases ha
    obtain ⟨v, e5, r5⟩ := rs.atI q5
    cases r5
    refine ⟨p, xs, z, _, rfl, rfl, q2, hx, e5, useF ⟨S1, R1⟩ h1 fun yd e2 w2 H2 ⟨S2, R2⟩ ⟨c, s2, ds2, j, q6, q7, q8, q9, h2⟩ => ?_⟩
    subst q6
    have rw2 := R2.topV
    cases rw2
    have R2 := R2.pop
    obtain ⟨p2, xs2, ha2, hx2, rs2, kk2⟩ := R2.addr q7 q8
    rw [ho] at ha2; cases ha2
    refine ⟨a, c, rfl, rfl, p, xs2, z, j, rfl, rfl, hx2, by rw [← rs2.length]; exact q9, ?_⟩
    exact k.nx _ σ _ ⟨S2, kk2 _ _ (rs2.set (.int _) j)⟩ h2

/-! ### methods of a list that a slot holds -/
theorem me_append {i : Nat} (h : ∀ t, PE X b t → PE X ex (tBM X.K "list" rAppend (tVar i) (tCons t tNil))) (hb : PE X b (canE C pb)) : PE X ex (canE C (pAppend i pb)) :=
  (h _ hb).up fun σ H Q ⟨ts, vs, e, P, ⟨S, R⟩, ⟨⟨s0, hs0, hl0⟩, h⟩, k⟩ => by
    obtain ⟨ds0, hd0⟩ := Option.isSome_iff_exists.mp hl0
    obtain ⟨p, xs, ha, hx, rs, _⟩ := R.addr hs0 hd0
    refine ⟨_, ha, .inl ⟨rfl, _, SqL.of hx⟩, useF ⟨S, R⟩ h fun d e1 w H1 ⟨S1, R1⟩ ⟨s1, ds, q1, q2, q3, hP⟩ => ?_⟩
    have rd := R1.topV
    obtain ⟨p2, xs2, ha2, hx2, rs2, kk⟩ := R1.pop.addr q1 q2
    rw [ha] at ha2; cases ha2
    exact ⟨p, xs2, w, rfl, rfl, hx2, by rw [← rs2.length]; exact q3, k _ _ .non _ ⟨S1, (kk _ _ (rs2.append (.cons rd .nil))).pushV .non⟩ hP⟩
theorem me_pop {i : Nat} (h : PE X ex (tBM0 X.K "list" rPop (tVar i))) : PE X ex (canE C (pPop i)) :=
  h.up fun σ H Q ⟨ts, vs, e, P, ⟨S, R⟩, ⟨s0, ds, d, hs0, hd0, hg, hP⟩, k⟩ => by
    obtain ⟨p, xs, ha, hx, rs, kk⟩ := R.addr hs0 hd0
    obtain ⟨v, e1, r1⟩ := rs.get hg
    rw [rs.length] at e1
    exact ⟨_, ha, .inl ⟨rfl, _, SqL.of hx⟩, p, xs, v, rfl, rfl, hx, e1, k _ _ v _ ⟨S, (kk _ _ rs.dropLast).pushV r1⟩ hP⟩
theorem me_popAt {i : Nat} (h : ∀ t, PE X b t → PE X ex (tBM X.K "list" rPopAt (tVar i) (tCons t tNil))) (hb : PE X b (canE C pb)) : PE X ex (canE C (pPopAt i pb)) :=
  (h _ hb).up fun σ H Q ⟨ts, vs, e, P, ⟨S, R⟩, ⟨⟨s0, hs0, hl0⟩, h⟩, k⟩ => by
    obtain ⟨ds0, hd0⟩ := Option.isSome_iff_exists.mp hl0
    obtain ⟨p, xs, ha, hx, rs, _⟩ := R.addr hs0 hd0
    refine ⟨_, ha, .inl ⟨rfl, _, SqL.of hx⟩, useF ⟨S, R⟩ h fun d e1 w H1 ⟨S1, R1⟩ ⟨s1, ds, j, kx, dx, q1, q2, q3, q4, q5, q6, hP⟩ => ?_⟩
    subst q3
    have rd := R1.topV
    cases rd
    obtain ⟨p2, xs2, ha2, hx2, rs2, kk⟩ := R1.pop.addr q1 q2
    rw [ha] at ha2; cases ha2
    obtain ⟨v, e6, r6⟩ := rs2.get q6
    exact ⟨p, xs2, j, kx, v, rfl, rfl, hx2, q4.1, q4.2, by rw [← rs2.length]; exact q5, e6, k _ _ v _ ⟨S1, (kk _ _ (rs2.eraseIdx kx)).pushV r6⟩ hP⟩

/-! ### isinstance of a value -/
theorem Ra.ty {K : PySem.W.Frag} {mg : Str → Option Value} {S H : Hp} {d : D} {v : V} {n : String} (l : Le S H) (r : Ra K mg S H d v) (h : tyName d = some n) : TyX K H v (.type n) := by
  cases d with
  | non => cases h; rw [r.non]; exact .base .non
  | bl b => cases h; rw [r.bl]; exact .base (.bl b)
  | int b => cases h; rw [r.int]; exact .base (.int b)
  | str b => cases h; rw [r.str]; exact .base (.str b)
  | tup ds =>
    cases h
    obtain ⟨a, xs, rfl, hq, _, _⟩ := r.tup l
    rcases hq with (hq | ⟨o, hq⟩) | ⟨o, its, n, hk, hc, hd, hz, rv⟩
    · exact .base (.tup hq)
    · exact .fTuple hq
    · exact .kTuple hk hc
  | lst ds =>
    cases h
    obtain ⟨a, xs, rfl, hq, _⟩ := r.lst l
    exact .base (.lst hq)
  | lsq ds => cases h
  | obj c fs => cases h
theorem me_isi {T : String} {x2 : Expr} (hK : X.K = C.K) (h : ∀ ta, PA X [a, x2] ta → PE X ex (tCB (rIsi X.K) ta)) (n : notStar a = true) (n2 : notStar x2 = true) (ha : PE X a (canP C q)) (h2 : PE X x2 (tC (.ty T))) : PE X ex (canE C (pIsi T q)) :=
  (h _ (pa_cons ha (pa_cons h2 pa_nil (star_cons n2)) (star_cons n))).up fun σ H Q ⟨ts, vs, e, P, R, h, k⟩ => useP R h fun S d e1 v H1 R1 rd ⟨nm, bb, e2, e3, hP⟩ =>
    ⟨v, .ty T, .type nm, .type T, bb, rfl, .ty T, by rw [hK]; exact rd.ty R1.sub e2, kit_ty e3, k _ e1 _ H1 ⟨S, R1.pushV (.bl _)⟩ hP⟩

/-! ### comprehensions -/
theorem wipeP_len (e : PEnv) : ∀ vs, (wipeP e vs).length = e.length
  | [] => rfl
  | v :: vs => by unfold wipeP; rw [List.length_set, wipeP_len e vs]
theorem RepAt.wipe {S : Hp} {ts : List Sv} {vs : List V} {e : PEnv} {σ : L2.St} {H : Hp} (R : RepAt C S ts vs e σ H) : ∀ own, RepAt C S ts vs (wipeP e own) (L2.wipe σ own) H
  | [] => R
  | v :: own => (RepAt.wipe R own).forget none
/-- what is said of the wiped slots holds of the slots, too -/
theorem RepAt.unwipe {S : Hp} {ts : List Sv} {vs : List V} {e : PEnv} {σ : L2.St} {H : Hp} {own : List Nat} (R : RepAt C S ts vs e (L2.wipe σ own) H) : RepAt C S ts vs (wipeP e own) σ H := by
  have sub : ∀ (i : Nat) v, (L2.wipe σ own)[i]? = some (some v) → σ[i]? = some (some v) := fun i v h => (wipe_some h).1
  have key : ∀ (i : Nat) sv, (wipeP e own)[i]? = some (some sv) → e[i]? = some (some sv) ∧ i ∉ own := by
    intro i sv
    clear R sub
    induction own with
    | nil => intro h; exact ⟨h, by simp⟩
    | cons w own ih =>
      intro h
      unfold wipeP at h
      rw [List.getElem?_set] at h
      by_cases z : w = i
      · rw [if_pos z] at h; split at h <;> cases h
      · rw [if_neg z] at h
        obtain ⟨h1, h2⟩ := ih h
        exact ⟨h1, by simp [Ne.symm z, h2]⟩
  have dist : ∀ a, ownS a (wipeP e own) σ ≤ ownS a e (L2.wipe σ own) := fun a => by
    have hl := R.len
    rw [wipe_length] at hl
    clear R sub key
    suffices ∀ (e : PEnv) (σ : L2.St) (τ : L2.St) (f : PEnv), f.length = e.length → τ.length = σ.length → e.length = σ.length → (∀ (i : Nat) sv, f[i]? = some (some sv) → e[i]? = some (some sv) ∧ τ[i]? = σ[i]?) → ownS a f σ ≤ ownS a e τ by
      refine this e σ (L2.wipe σ own) (wipeP e own) (wipeP_len _ _) (wipe_length _ _) hl fun i sv h => ?_
      have key : e[i]? = some (some sv) ∧ i ∉ own := by
        clear hl this
        induction own with
        | nil => exact ⟨h, by simp⟩
        | cons w own ih =>
          unfold wipeP at h
          rw [List.getElem?_set] at h
          by_cases z : w = i
          · rw [if_pos z] at h; split at h <;> cases h
          · rw [if_neg z] at h
            obtain ⟨h1, h2⟩ := ih h
            exact ⟨h1, by simp [Ne.symm z, h2]⟩
      exact ⟨key.1, wipe_out key.2⟩
    intro e
    induction e with
    | nil =>
      intro σ τ f h1 h2 h3 h4
      have : f = [] := List.length_eq_zero_iff.mp h1
      subst this
      simp [ownS]
    | cons x e ih =>
      intro σ τ f h1 h2 h3 h4
      cases σ with
      | nil => simp at h3
      | cons y σ =>
        cases τ with
        | nil => simp at h2
        | cons z τ =>
          cases f with
          | nil => simp at h1
          | cons w f =>
            have r := ih σ τ f (by simpa using h1) (by simpa using h2) (by simpa using h3) (fun i sv h => by simpa using h4 (i + 1) sv (by simpa using h))
            show ownO a w y + ownS a f σ ≤ ownO a x z + ownS a e τ
            have : ownO a w y ≤ ownO a x z := by
              cases w with
              | none => simp [ownO]
              | some sv =>
                obtain ⟨q1, q2⟩ := h4 0 sv rfl
                simp at q1 q2
                subst q1; subst q2
                exact Nat.le_refl _
            omega
  exact {
    sub := R.sub, ext := R.ext, new := R.new, fr := R.fr, rf := R.rf, tmp := R.tmp
    len := by rw [wipeP_len, R.len, wipe_length]
    slot := fun i sv h => by
      obtain ⟨h1, h2⟩ := key i sv h
      obtain ⟨v, h3, h4⟩ := R.slot i sv h1
      exact ⟨v, sub i v h3, h4⟩
    dist := fun a => by have := dist a; have := R.dist a; omega }
theorem wipe_comm : ∀ (own : List Nat) (v : Nat) (τ : L2.St), L2.wipe (τ.set v none) own = (L2.wipe τ own).set v none
  | [], _, _ => rfl
  | w :: own, v, τ => by
    show (L2.wipe (τ.set v none) own).set w none = ((L2.wipe τ own).set w none).set v none
    rw [wipe_comm own v τ]
    by_cases z : w = v
    · subst z; rfl
    · rw [List.set_comm _ _ (Ne.symm z)]
theorem wipe_wipe (σ : L2.St) : ∀ own : List Nat, L2.wipe (L2.wipe σ own) own = L2.wipe σ own
  | [] => rfl
  | v :: own => by
    show (L2.wipe ((L2.wipe σ own).set v none) own).set v none = (L2.wipe σ own).set v none
    rw [wipe_comm, wipe_wipe σ own, List.set_set]
theorem wipeP_comm : ∀ (own : List Nat) (v : Nat) (τ : PEnv), wipeP (τ.set v none) own = (wipeP τ own).set v none
  | [], _, _ => rfl
  | w :: own, v, τ => by
    show (wipeP (τ.set v none) own).set w none = ((wipeP τ own).set w none).set v none
    rw [wipeP_comm own v τ]
    by_cases z : w = v
    · subst z; rfl
    · rw [List.set_comm _ _ (Ne.symm z)]
theorem wipeP_wipeP (σ : PEnv) : ∀ own : List Nat, wipeP (wipeP σ own) own = wipeP σ own
  | [] => rfl
  | v :: own => by
    show (wipeP ((wipeP σ own).set v none) own).set v none = (wipeP σ own).set v none
    rw [wipeP_comm, wipeP_wipeP σ own, List.set_set]
theorem wipe_set {i : Nat} {x : Option V} : ∀ {own : List Nat} {σ : L2.St}, i ∈ own → L2.wipe (σ.set i x) own = L2.wipe σ own
  | w :: own, σ, h => by
    show (L2.wipe (σ.set i x) own).set w none = (L2.wipe σ own).set w none
    by_cases z : i ∈ own
    · rw [wipe_set z]
    · have e : i = w := by rcases List.mem_cons.mp h with e | e; exact e; exact absurd e z
      subst e
      have : ∀ (own : List Nat) (τ : L2.St), (L2.wipe (τ.set i x) own).set i none = (L2.wipe τ own).set i none := by
        intro own
        induction own with
        | nil => intro τ; show (τ.set i x).set i none = τ.set i none; rw [List.set_set]
        | cons w own ih =>
          intro τ
          show ((L2.wipe (τ.set i x) own).set w none).set i none = ((L2.wipe τ own).set w none).set i none
          by_cases q : w = i
          · subst q; rw [List.set_set, List.set_set]; exact ih τ
          · rw [List.set_comm _ _ q, ih τ, List.set_comm _ _ q]
      exact this own σ
theorem paired_app {α β : Type} {F : α → β → Prop} : ∀ {l1 : List α} {r1 : List β} {l2 : List α} {r2 : List β}, Paired F l1 r1 → Paired F l2 r2 → Paired F (l1 ++ l2) (r1 ++ r2)
  | _, _, _, _, .nil, q => q
  | _, _, _, _, .cons h t, q => .cons h (paired_app t q)
theorem paired_split {α β : Type} {F : α → β → Prop} : ∀ {l1 : List α} {r1 : List β} {l2 : List α} {r2 : List β}, l1.length = r1.length → Paired F (l1 ++ l2) (r1 ++ r2) → Paired F l1 r1 ∧ Paired F l2 r2
  | [], [], _, _, _, q => ⟨.nil, q⟩
  | [], _ :: _, _, _, h, _ => by simp at h
  | _ :: _, [], _, _, h, _ => by simp at h
  | _ :: _, _ :: _, _, _, h, q => by
    cases q with
    | cons u q =>
      obtain ⟨q1, q2⟩ := paired_split (by simpa using h) q
      exact ⟨.cons u q1, q2⟩
theorem ownT_app (a : Addr) : ∀ {kts : List Sv} {kvs : List V}, kts.length = kvs.length → ∀ (ts : List Sv) (vs : List V), ownT a (kts ++ ts) (kvs ++ vs) = ownT a kts kvs + ownT a ts vs
  | [], [], _, _, _ => by simp [ownT]
  | [], _ :: _, h, _, _ => by simp at h
  | _ :: _, [], h, _, _ => by simp at h
  | t :: kts, w :: kvs, h, ts, vs => by
    have := ownT_app a (kts := kts) (kvs := kvs) (by simpa using h) ts vs
    show own1 a t w + ownT a (kts ++ ts) (kvs ++ vs) = own1 a t w + ownT a kts kvs + ownT a ts vs
    omega
theorem RepAt.tmps {S : Hp} {ts ts' : List Sv} {vs vs' : List V} {e : PEnv} {σ : L2.St} {H : Hp} (R : RepAt C S ts vs e σ H) (t : Paired (SvRep C S H) ts' vs') (d : ∀ a, ownT a ts' vs' ≤ ownT a ts vs) : RepAt C S ts' vs' e σ H :=
  { R with tmp := t, dist := fun a => by have := d a; have := R.dist a; omega }
/-- a temporary behind others, ahead of others -/
theorem RepAt.deep {S : Hp} {kts ts : List Sv} {kvs vs : List V} {t : Sv} {v : V} {e : PEnv} {σ : L2.St} {H : Hp} (wl : kts.length = kvs.length) (R : RepAt C S (t :: (kts ++ ts)) (v :: (kvs ++ vs)) e σ H) : RepAt C S (kts ++ (t :: ts)) (kvs ++ (v :: vs)) e σ H := by
  have tm := R.tmp
  cases tm with
  | cons t0 t1 =>
    obtain ⟨q1, q2⟩ := paired_split wl t1
    refine R.tmps (paired_app q1 (.cons t0 q2)) fun a => ?_
    have e1 := ownT_app a wl (t :: ts) (v :: vs)
    have e2 := ownT_app a wl ts vs
    have e3 : ownT a (t :: ts) (v :: vs) = own1 a t v + ownT a ts vs := rfl
    have e4 : ownT a (t :: (kts ++ ts)) (v :: (kvs ++ vs)) = own1 a t v + ownT a (kts ++ ts) (kvs ++ vs) := rfl
    omega
theorem RepAt.shallow {S : Hp} {kts ts : List Sv} {kvs vs : List V} {t : Sv} {v : V} {e : PEnv} {σ : L2.St} {H : Hp} (wl : kts.length = kvs.length) (R : RepAt C S (kts ++ (t :: ts)) (kvs ++ (v :: vs)) e σ H) : RepAt C S (t :: (kts ++ ts)) (v :: (kvs ++ vs)) e σ H := by
  obtain ⟨q1, q2⟩ := paired_split wl R.tmp
  cases q2 with
  | cons t0 t1 =>
    refine R.tmps (.cons t0 (paired_app q1 t1)) fun a => ?_
    have e1 := ownT_app a wl (t :: ts) (v :: vs)
    have e2 := ownT_app a wl ts vs
    have e3 : ownT a (t :: ts) (v :: vs) = own1 a t v + ownT a ts vs := rfl
    have e4 : ownT a (t :: (kts ++ ts)) (v :: (kvs ++ vs)) = own1 a t v + ownT a (kts ++ ts) (kvs ++ vs) := rfl
    omega
/-- the object of a temporary is changed -/
theorem RepAt.changeT {S : Hp} {ts : List Sv} {vs : List V} {e : PEnv} {σ : L2.St} {H : Hp} {D : Addr} {m : M} (R : RepAt C S (.own m :: ts) (.ref D :: vs) e σ H) :
    MRep C S H D m ∧ ∀ (o : HO) (m' : M), MRep C S (upd H D o) D m' → RepAt C S (.own m' :: ts) (.ref D :: vs) e σ (upd H D o) := by
  obtain ⟨D', e', h0, hs, hr⟩ := R.top
  cases e'
  refine ⟨hr, fun o m' hn => ?_⟩
  have dd : ∀ a, (if D = a then 1 else 0) + ownT a ts vs + ownS a e σ ≤ 1 := fun a => R.dist a
  have R0 : RepAt C S ts vs e σ (upd H D o) := R.pop.mono (Le.refl S) (fun a u q => by rw [upd_ne (fun z => by subst z; rw [hs] at q; cases q)]; exact R.sub _ _ q) R.new
    (fun a u q r => by rw [upd_ne (fun z => by subst z; rw [h0] at q; cases q)]; exact R.fr _ _ q r)
    (fun a r => by
      by_cases z : a = D
      · subst z; exact ⟨o, upd_same⟩
      · rw [upd_ne z]; exact R.rf a r)
    (fun a q => by
      have z : a ≠ D := fun z => by subst z; have := dd a; rw [if_pos rfl] at this; omega
      exact ⟨upd_ne z, (R.pop.held q).2.1⟩)
  exact R0.push ⟨D, rfl, h0, hs, hn⟩ dd
/-- the object of a temporary in the middle is changed -/
theorem change_mid {S : Hp} {kts ts : List Sv} {kvs vs : List V} {e : PEnv} {σ : L2.St} {H : Hp} {D : Addr} {acc : List PL.D} (wl : kts.length = kvs.length) (R : RepAt C S (kts ++ (.own (.lst acc) :: ts)) (kvs ++ (.ref D :: vs)) e σ H) :
    ∃ xs, H D = some (.lst xs) ∧ RpL C.K C.mg S acc xs ∧ ∀ ds' xs', RpL C.K C.mg S ds' xs' → RepAt C S (kts ++ (.own (.lst ds') :: ts)) (kvs ++ (.ref D :: vs)) e σ (upd H D (.lst xs')) := by
  obtain ⟨⟨xs, h1, h2⟩, k⟩ := (R.shallow wl).changeT
  exact ⟨xs, h1, h2, fun ds' xs' rs => (k (.lst xs') (.lst ds') ⟨xs', upd_same, rs⟩).deep wl⟩
theorem lc_can {it : pI} {pp : pE} {own : List Nat} {σ : L2.St} {H : Hp} {Q : VK} (h : canE C (pLc it g pt pp own) σ H Q) : tLc (canI C it) (canG C (fun σ τ => L2.wipe τ own = L2.wipe σ own) g) (canT C pt) (canE C pp) own σ H Q := by
  obtain ⟨ts, vs, e, P, R, h, k⟩ := h
  refine ⟨ts, vs, e, _, R, h, fun J ds kts kvs e1 H1 R1 wk h1 D hD => ?_⟩
  refine ⟨fun i m H' => m = ds.length - i ∧ i ≤ ds.length ∧ ∃ e' acc S, RepAt C S (kts ++ (.own (.lst acc) :: ts)) (kvs ++ (.ref D :: vs)) (wipeP e' own) (L2.wipe σ own) H' ∧ lcL g pt pp own (ds.drop i) acc e' (fun acc e2 => P (.own (.lst acc)) (wipeP e2 own)), ?_, ?_⟩
  · obtain ⟨S1, R1⟩ := R1
    refine ⟨_, rfl, Nat.zero_le _, e1, [], S1, ?_, by rw [List.drop_zero]; exact h1⟩
    exact (((R1.pushL (ds := []) (xs := []) hD .nil).wipe own)).deep wk.len
  · rintro i m H' ⟨rfl, hi, e', acc, S, R', h'⟩
    by_cases hlt : i < ds.length
    · have ed : ds.drop i = ds[i] :: ds.drop (i + 1) := List.drop_eq_getElem_cons hlt
      rw [ed] at h'
      refine .inr ⟨wk.go i R' hlt, fun H2 => ∃ e2 acc S, RepAt C S (kts ++ (.own (.lst acc) :: ts)) (kvs ++ (.ref D :: vs)) (wipeP e2 own) (L2.wipe σ own) H2 ∧ lcL g pt pp own (ds.drop (i + 1)) acc e2 (fun acc e2 => P (.own (.lst acc)) (wipeP e2 own)), fun H2 h2 => ⟨ds.length - (i + 1), by omega, rfl, hlt, h2⟩, fun x H2 hy => ?_⟩
      have res := wk.yld i x H2 ds[i] R' hy (by simp [hlt])
      obtain ⟨S2, R2⟩ := R'.res res
      refine useG (ts := kts ++ (.own (.lst acc) :: ts)) (vs := kvs ++ (.ref D :: vs)) ⟨S2, R2⟩ h' fun e3 σ3 H3 R3 r3 h3 => ?_
      rw [wipe_wipe] at r3
      have r3 : L2.wipe σ3 own = L2.wipe σ own := r3
      refine ⟨r3, useT R3 h3 fun b e4 H4 R4 h4 => ?_⟩
      cases b
      · obtain ⟨S4, R4⟩ := R4
        have R5 := R4.wipe own
        rw [r3] at R5
        exact ⟨e4, acc, S4, R5, h4⟩
      · refine useF R4 h4 fun d e5 y H5 ⟨S5, R5⟩ ⟨hz, h5⟩ => ?_
        -- the list that is made
        have R6 := R5.wipe own
        rw [r3] at R6
        obtain ⟨xs, hx, rs, fin⟩ : ∃ xs, H5 D = some (.lst xs) ∧ RpL C.K C.mg S5 acc xs ∧ ∀ ds' xs', RpL C.K C.mg S5 ds' xs' → RepAt C S5 (kts ++ (.own (.lst ds') :: ts)) (kvs ++ (.ref D :: vs)) (wipeP e5 own) (L2.wipe σ own) (upd H5 D (.lst xs')) := change_mid wk.len R6.pop
        exact ⟨xs, hx, by rw [← rs.length]; exact hz, e5, acc ++ [d], S5, fin _ _ (rs.append (.cons R6.topV .nil)), h5⟩
    · have ei : i = ds.length := by omega
      subst ei
      rw [List.drop_length] at h'
      refine .inl ⟨wk.stop R', ?_⟩
      have R2 := (popN wk.len R').unwipe
      rw [wipeP_wipeP] at R2
      exact k _ _ _ H' ⟨S, R2⟩ h'
end
end PL
set_option Elab.async false
set_option linter.all false
set_option maxRecDepth 100000
set_option maxHeartbeats 4000000
/-! PL7: defs that promise what their reading tells; calls of them. -/
namespace PL
open PySem PySem.Spec PyProof.Rows L2

/-- what a def's reading promises, in the kit's words. m: what the borrowed first argument (at r) holds -/
def refRep (K : PySem.W.Frag) (mg : Str → Option Value) (S H : Hp) : Option Addr → Option M → Prop
  | none, none => True
  | some a, some m => S a = none ∧ MRep ⟨K, mg, S, H, none, none⟩ S H a m
  | _, _ => False
def refAdd (r : Option Addr) (ws : List V) : List V := match r with
  | none => ws
  | some a => .ref a :: ws
abbrev cfg0 (K : PySem.W.Frag) (mg : Str → Option Value) (S H : Hp) (r : Option Addr) : Cfg := ⟨K, mg, S, H, r, none⟩
/-- an exception that is told -/
def ExnAt (C : Cfg) (S : Hp) (x : Exn) (cls : Value) (d : Option Addr) : Prop := ∃ cl dd gs, C.mg x.cls = some (.ref cl) ∧ cls = .ref cl ∧ d = some dd ∧ S dd = some (.xd gs) ∧ RpF C.K C.mg S x.fs gs
def l2sp (K : PySem.W.Frag) (mg : Str → Option Value) (sp : PSp) : Sp := fun vs H Q E => ∃ (S : Hp) (r : Option Addr) (m : Option M) (ds : List D) (ws : List V) (P : Sv → Option M → Prop) (PX : Exn → Option M → Prop),
  Le S H ∧ vs = refAdd r ws ∧ RpL K mg S ds ws ∧ refRep K mg S H r m ∧ sp m ds P PX ∧
  (∀ z m' v H' S', RepAt (cfg0 K mg S H r) S' [z] [v] [] [] H' → refRep K mg S' H' r m' → P z m' → Q v H') ∧
  (∀ x m' cls d H' S', RepAt (cfg0 K mg S H r) S' [] [] [] [] H' → refRep K mg S' H' r m' → ExnAt (cfg0 K mg S H r) S' x cls d → PX x m' → E cls d H')
/-- how an exception lies to a body's reading -/
def canX (C : Cfg) (xc : XC) : WX := fun cls d σ H => ∃ ts vs e x S, RepAt C S ts vs e σ H ∧ ExnAt C S x cls d ∧ xc x e

section
variable {X : Cx} {C : Cfg} {a b c ex : Expr} {pos : Pos} {pa pb pc p : pE} {q : pV} {xc : XC}
theorem takes_no {X : Cx} : Takes X (canX C fun _ _ => False) := fun _ _ x => by
  obtain ⟨_, _, _, _, _, _, _, _, _, _, _, _, _, _, _, _, z⟩ := x
  obtain ⟨_, _, _, _, _, _, _, z⟩ := z
  exact z.elim
theorem MRep.cfg {C C' : Cfg} {S H : Hp} {a : Addr} {m : M} (hK : C.K = C'.K) (hm : C.mg = C'.mg) (h : MRep C S H a m) : MRep C' S H a m := by
  cases m with
  | lst ds => obtain ⟨xs, h1, h2⟩ := h; exact ⟨xs, h1, by rw [← hK, ← hm]; exact h2⟩
  | ins c fs => obtain ⟨cl, dx, gs, h0, h1, h2⟩ := h; exact ⟨cl, dx, gs, by rw [← hm]; exact h0, h1, by rw [← hK, ← hm]; exact h2⟩
/-- a slot forgotten, its value as it is -/
theorem RepAt.drop {S H : Hp} {ts : List Sv} {vs : List V} {e : PEnv} {σ : L2.St} {i : Nat} (R : RepAt C S ts vs e σ H) : RepAt C S ts vs (e.set i none) σ H where
  sub := R.sub
  ext := R.ext
  new := R.new
  fr := R.fr
  rf := R.rf
  tmp := R.tmp
  len := by rw [List.length_set]; exact R.len
  slot := fun j s z => by
    rw [List.getElem?_set] at z
    by_cases w : i = j
    · rw [if_pos w] at z; split at z <;> cases z
    · rw [if_neg w] at z; exact R.slot j s z
  dist := fun a => by
    have d := R.dist a
    have : ownS a (e.set i none) σ ≤ ownS a e σ := by
      have : ∀ (e : PEnv) (σ : L2.St) (i : Nat), ownS a (e.set i none) σ ≤ ownS a e σ := by
        intro e
        induction e with
        | nil => intro σ i; simp [ownS]
        | cons x e ih =>
          intro σ i
          cases σ with
          | nil => cases i <;> simp [ownS]
          | cons y σ =>
            cases i with
            | zero =>
              show ownO a none y + ownS a e σ ≤ ownO a x y + ownS a e σ
              simp [ownO]
            | succ i =>
              have := ih σ i
              show ownO a x y + ownS a (e.set i none) σ ≤ ownO a x y + ownS a e σ
              omega
      exact this e σ i
    omega
theorem RepAt.put {S H : Hp} {ts : List Sv} {vs : List V} {e : PEnv} {σ : L2.St} {i : Nat} {sv sv0 : Sv} {v : V} (R : RepAt C S ts vs (e.set i none) σ H) (q : e[i]? = some (some sv0)) (qv : σ[i]? = some (some v)) (r : SvRep C S H sv v)
    (hd : ∀ a, own1 a sv v + ownT a ts vs + ownS a (e.set i none) σ ≤ 1) : RepAt C S ts vs (e.set i (some sv)) σ H where
  sub := R.sub
  ext := R.ext
  new := R.new
  fr := R.fr
  rf := R.rf
  tmp := R.tmp
  len := by have := R.len; rw [List.length_set] at this ⊢; exact this
  slot := fun j s z => by
    rw [List.getElem?_set] at z
    by_cases w : i = j
    · subst w
      rw [if_pos rfl] at z
      split at z
      · cases z; exact ⟨v, qv, r⟩
      · cases z
    · rw [if_neg w] at z
      exact R.slot j s (by rw [List.getElem?_set, if_neg w]; exact z)
  dist := fun a => by
    have h1 := ownS_rm a (some sv) e σ i sv0 v q qv
    have h2 := ownS_rm a none e σ i sv0 v q qv
    have h1 : ownS a (e.set i (some sv)) σ + own1 a sv0 v = ownS a e σ + own1 a sv v := h1
    have h2 : ownS a (e.set i none) σ + own1 a sv0 v = ownS a e σ + 0 := h2
    have := hd a
    omega
/-- behind a call: what the caller holds, the borrowed object aside -/
theorem RepAt.afterR {S S' H H' : Hp} {ts us : List Sv} {vs ws : List V} {e : PEnv} {σ : L2.St} {r : Option Addr} (R : RepAt C S ts vs e σ H) (F : RepAt (cfg0 C.K C.mg S H r) S' us ws [] [] H')
    (hr : ∀ p, r = some p → ownT p ts vs + ownS p e σ = 0 ∧ (C.H0 p = none ∨ C.R = some p)) : RepAt C S' ts vs e σ H' := by
  refine R.mono F.ext F.sub (fun b u q => ?_) (fun b u q z => ?_) (fun b z => ?_) (fun b q => ?_)
  · rcases F.new b u q with ⟨o', z⟩ | z
    · exact R.new b o' z
    · exact .inr (R.free0 z)
  · refine F.fr b u (R.fr b u q z) fun w => ?_
    rcases (hr b w).2 with w | w
    · rw [q] at w; cases w
    · exact z w
  · by_cases w : r = some b
    · exact F.rf b w
    · obtain ⟨o, ho⟩ := R.rf b z
      exact ⟨o, F.fr b o ho w⟩
  · obtain ⟨⟨o, ho⟩, hs, _⟩ := R.held q
    have w : r ≠ some b := fun w => by have := (hr b w).1; omega
    refine ⟨(F.fr b o ho w).trans ho.symm, ?_⟩
    cases x : S' b with
    | none => rfl
    | some u =>
      rcases F.new b u x with ⟨o', z⟩ | z
      · have z : S b = some o' := z; rw [hs] at z; cases z
      · have z : H b = none := z; rw [ho] at z; cases z
/-- what is handed back -/
def isOut : Sv → Prop
  | .val _ => True
  | .own _ => True
  | _ => False
theorem SvRep.out {S S' H H' : Hp} {ts : List Sv} {vs : List V} {e : PEnv} {σ : L2.St} {r : Option Addr} {z : Sv} {v : V} (R : RepAt C S ts vs e σ H) (hz : isOut z) (h : SvRep (cfg0 C.K C.mg S H r) S' H' z v) : SvRep C S' H' z v ∧ ∀ a, own1 a z v = 1 → H a = none := by
  cases z with
  | val d => exact ⟨h, fun a q => by rw [own1_val] at q; cases q⟩
  | own m =>
    obtain ⟨a, rfl, h0, h1, h2⟩ := h
    refine ⟨⟨a, rfl, R.free0 h0, h1, h2.cfg rfl rfl⟩, fun b q => ?_⟩
    by_cases z : a = b
    · subst z; exact h0
    · simp [own1, z] at q
  | bor m => exact hz.elim
  | exn x => exact hz.elim
theorem RepAt.out {S S' H H' : Hp} {ts : List Sv} {vs : List V} {e e0 : PEnv} {σ σ0 : L2.St} {r : Option Addr} {z : Sv} {v : V} (R0 : RepAt C S ts vs e0 σ0 H) (R : RepAt C S' ts vs e σ H') (hz : isOut z) (h : SvRep (cfg0 C.K C.mg S H r) S' H' z v)
    (hh : ∀ a, ownT a ts vs + ownS a e σ = 1 → ∃ o, H a = some o) : RepAt C S' (z :: ts) (v :: vs) e σ H' := by
  obtain ⟨h1, h2⟩ := h.out R0 hz
  refine R.push h1 fun a => ?_
  have d := R.dist a
  have l := own1_le a z v
  by_cases q : own1 a z v = 1
  · by_cases w : ownT a ts vs + ownS a e σ = 1
    · obtain ⟨o, ho⟩ := hh a w
      rw [h2 a q] at ho; cases ho
    · omega
  · omega

/-- a call without a borrowed argument -/
def pCall (sp : PSp) (xc : XC) (r : pA) : pE := fun e P => r e fun ds e1 => sp none ds (fun z _ => isOut z ∧ P z e1) (fun x _ => xc x e1)
/-- a call whose first argument, slot i, is borrowed -/
def pCallR (sp : PSp) (xc : XC) (i : Nat) (r : pA) : pE := fun e P => (∃ sv m, e[i]? = some (some sv) ∧ isHeld sv m) ∧ r e fun ds e1 => ∃ sv m, e1[i]? = some (some sv) ∧ isHeld sv m ∧
  sp (some m) ds (fun z m' => isOut z ∧ ∃ n, m' = some n ∧ P z (e1.set i (some (reHold sv n)))) (fun x m' => ∃ n, m' = some n ∧ xc x (e1.set i (some (reHold sv n))))
theorem me_call {sp : PSp} {es : List Expr} {r : pA} (hx : ∀ t, PA X es t → PE X ex (tCallS (l2sp C.K C.mg sp) (WE (canX C xc)) t)) (h : PA X es (canK C r)) : PE X ex (canE C (pCall sp xc r)) :=
  (hx _ h).up fun σ H Q ⟨ts, vs, e, P, R, h, k⟩ => ⟨ts, vs, e, _, R, h, fun S ds e1 ws H1 R1 rs h1 => by
    refine ⟨S, none, none, ds, ws, _, _, R1.sub, rfl, rs, trivial, h1, fun z m' v H' S' F _ ⟨ho, hp⟩ => ?_, fun x m' cls d H' S' F _ hat hx => ?_⟩
    · have R2 := R1.afterR F fun p z => by cases z
      exact k z e1 v H' ⟨S', R1.out R2 ho F.top fun a q => (R1.held q).1⟩ hp
    · have R2 := R1.afterR F fun p z => by cases z
      exact ⟨ts, vs, e1, x, S', R2, hat, hx⟩⟩
theorem me_callR {sp : PSp} {x0 : Expr} {es : List Expr} {r : pA} {i : Nat} (n : notStar x0 = true) (hx : ∀ t, PA X (x0 :: es) t → PE X ex (tCallS (l2sp C.K C.mg sp) (WE (canX C xc)) t)) (hv : PE X x0 (tVar i)) (h : PA X es (canK C r)) : PE X ex (canE C (pCallR sp xc i r)) :=
  (hx _ (pa_cons hv h (star_cons n))).up fun σ H Q ⟨ts, vs, e, P, ⟨S0, R⟩, ⟨⟨sv0, m0, hs0, _⟩, h⟩, k⟩ => by
    obtain ⟨o, ho, _⟩ := R.slot i _ hs0
    refine ⟨o, ho, ts, vs, e, _, ⟨S0, R⟩, h, fun S ds e1 ws H1 R1 rs ⟨sv, m, q1, q2, h1⟩ => ?_⟩
    obtain ⟨v, hv1, hsv⟩ := R1.slot i sv q1
    rw [ho] at hv1; cases hv1
    obtain ⟨p, rfl, hs, hm, hw, ho1⟩ : ∃ p, o = .ref p ∧ S p = none ∧ MRep C S H1 p m ∧ (C.H0 p = none ∨ C.R = some p) ∧ own1 p sv o = 1 := by
      cases sv with
      | val d => exact q2.elim
      | exn x => exact q2.elim
      | own m₀ => have e : m₀ = m := q2; subst e; obtain ⟨a, rfl, h0, hs, hr⟩ := hsv; exact ⟨a, rfl, hs, hr, .inl h0, by simp [own1]⟩
      | bor m₀ => have e : m₀ = m := q2; subst e; obtain ⟨a, rfl, h0, hs, hr⟩ := hsv; exact ⟨a, rfl, hs, hr, .inr h0, by simp [own1]⟩
    have rm := fun a => ownS_rm a none e1 σ i sv (.ref p) q1 ho
    have rm : ∀ a, ownS a (e1.set i none) σ + own1 a sv (.ref p) = ownS a e1 σ + 0 := rm
    have hz : ownT p ts vs + ownS p (e1.set i none) σ = 0 := by have := R1.dist p; have := rm p; omega
    have back : ∀ {S' H' : Hp} {us : List Sv} {ws' : List V} {nm : M}, RepAt (cfg0 C.K C.mg S H1 (some p)) S' us ws' [] [] H' → refRep C.K C.mg S' H' (some p) (some nm) → RepAt C S' ts vs (e1.set i (some (reHold sv nm))) σ H' := fun {S' H' us ws' nm} F hr => by
      have R2 : RepAt C S' ts vs (e1.set i none) σ H' := R1.drop.afterR F fun p' z => by cases z; exact ⟨hz, hw⟩
      obtain ⟨hr1, hr2⟩ := hr
      refine R2.put q1 ho ?_ fun a => ?_
      · cases sv with
        | val d => exact q2.elim
        | exn x => exact q2.elim
        | own m₀ => obtain ⟨a, e, h0, _⟩ := hsv; cases e; exact ⟨p, rfl, h0, hr1, hr2.cfg rfl rfl⟩
        | bor m₀ => obtain ⟨a, e, h0, _⟩ := hsv; cases e; exact ⟨p, rfl, h0, hr1, hr2.cfg rfl rfl⟩
      · have e1' : own1 a (reHold sv nm) (.ref p) = own1 a sv (.ref p) := by cases sv <;> rfl
        have := rm a
        have := R1.dist a
        omega
    refine ⟨S, some p, some m, ds, ws, _, _, R1.sub, rfl, rs, ⟨hs, hm.cfg rfl rfl⟩, h1, fun z m' v H' S' F hr ⟨hout, nm, e2, hp⟩ => ?_, fun x m' cls d H' S' F hr hat ⟨nm, e2, hx⟩ => ?_⟩
    · subst e2
      have R3 := back F hr
      refine k z _ v H' ⟨S', R1.out R3 hout F.top fun a q => ?_⟩ hp
      have e1' : own1 a (reHold sv nm) (.ref p) = own1 a sv (.ref p) := by cases sv <;> rfl
      have h2 := ownS_rm a (some (reHold sv nm)) e1 σ i sv (.ref p) q1 ho
      have h2 : ownS a (e1.set i (some (reHold sv nm))) σ + own1 a sv (.ref p) = ownS a e1 σ + own1 a (reHold sv nm) (.ref p) := h2
      exact (R1.held (a := a) (by omega)).1
    · subst e2
      exact ⟨ts, vs, _, x, S', back F hr, hat, hx⟩

/-! ### a def by its body's reading -/
def finR (ref : Bool) (e : PEnv) (P : Option M → Prop) : Prop := match ref with
  | false => P none
  | true => match (e[0]? : Option (Option Sv)) with
    | some (some (Sv.bor m)) => P (some m)
    | _ => False
def entry (m : Option M) (ds : List D) (n : Nat) : PEnv := (match m with
  | some m => [some (.bor m)]
  | none => []) ++ ds.map (fun d => some (.val d)) ++ List.replicate n none
/-- nloc: the names behind the parameters; np: the parameters -/
def semFn (nloc np : Nat) (ref : Bool) (p : XC → pS) : PSp := fun m ds P PX => (m.isSome = ref ∧ (if ref = true then 1 else 0) + ds.length = np) ∧
  p (fun x e => finR ref e (PX x)) { nx := fun e => finR ref e (P (.val .non)), rt := fun sv e => isOut sv ∧ finR ref e (P sv), bk := fun _ => False, ct := fun _ => False } (entry m ds nloc)
theorem entry_get {m : Option M} {ds : List D} {n i : Nat} {sv : Sv} (h : (entry m ds n)[i]? = some (some sv)) : (∃ k, m = some k ∧ i = 0 ∧ sv = .bor k) ∨ ∃ d j, ds[j]? = some d ∧ sv = .val d ∧ i = j + (if m.isSome = true then 1 else 0) := by
  have tail : ∀ {i : Nat}, ((ds.map (fun d => some (Sv.val d)) ++ List.replicate n (none : Option Sv))[i]? = some (some sv)) → ∃ d, ds[i]? = some d ∧ sv = .val d := fun {i} h => by
    by_cases hi : i < ds.length
    · rw [List.getElem?_append_left (by simpa using hi), List.getElem?_map] at h
      have : ds[i]? = some ds[i] := by simp [hi]
      rw [this] at h
      simp at h
      exact ⟨ds[i], this, h.symm⟩
    · rw [List.getElem?_append_right (by simpa using hi), List.getElem?_replicate] at h
      split at h <;> simp at h
  cases m with
  | none =>
    obtain ⟨d, h1, h2⟩ := tail (show _ from h)
    exact .inr ⟨d, i, h1, h2, rfl⟩
  | some k =>
    cases i with
    | zero =>
      have : some (some (Sv.bor k)) = some (some sv) := h
      simp at this
      exact .inl ⟨k, rfl, rfl, this.symm⟩
    | succ i =>
      obtain ⟨d, h1, h2⟩ := tail (i := i) (show _ from h)
      exact .inr ⟨d, i, h1, h2, rfl⟩
theorem ownS_vals (a : Addr) : ∀ (ds : List D) (n : Nat) (σ : L2.St), ownS a (ds.map (fun d => some (Sv.val d)) ++ List.replicate n none) σ = 0
  | [], n, σ => by
    rw [List.map_nil, List.nil_append]
    induction n generalizing σ with
    | zero => cases σ <;> simp [ownS]
    | succ n ih =>
      cases σ with
      | nil => simp [List.replicate_succ, ownS]
      | cons y σ =>
        rw [List.replicate_succ]
        show ownO a none y + ownS a (List.replicate n none) σ = 0
        rw [ih σ]
        simp [ownO]
  | d :: ds, n, σ => by
    cases σ with
    | nil => simp [ownS]
    | cons y σ =>
      show ownO a (some (.val d)) y + ownS a (ds.map (fun d => some (Sv.val d)) ++ List.replicate n none) σ = 0
      rw [ownS_vals a ds n σ]
      cases y with
      | none => rfl
      | some v => show own1 a (.val d) v + 0 = 0; rw [own1_val]
theorem entry_len (m : Option M) (ds : List D) (n : Nat) : (entry m ds n).length = (if m.isSome = true then 1 else 0) + ds.length + n := by
  cases m with
  | none => simp [entry]
  | some k => simp [entry]; omega
/-- the slots of a def's entry -/
theorem entry_rep {K : PySem.W.Frag} {mg : Str → Option Value} {S H : Hp} {r : Option Addr} {m : Option M} {ds : List D} {ws : List V} {n : Nat} {N : List Str} (l : Le S H) (rs : RpL K mg S ds ws) (hr : refRep K mg S H r m)
    (hN : (if m.isSome = true then 1 else 0) + ds.length + n = N.length) : RepAt (cfg0 K mg S H r) S [] [] (entry m ds n) (start N (refAdd r ws)) H := by
  have hrm : r.isSome = m.isSome := by
    cases r <;> cases m <;> first | rfl | exact hr.elim
  have lw : (refAdd r ws).length = (if m.isSome = true then 1 else 0) + ds.length := by
    rw [rs.length, ← hrm]
    cases r with
    | none => simp [refAdd]
    | some p => simp [refAdd]; omega
  have get : ∀ (i : Nat) v, (refAdd r ws)[i]? = some v → (start N (refAdd r ws))[i]? = some (some v) := fun i v h => by
    have hi := (List.getElem?_eq_some_iff.mp h).1
    unfold L2.start
    rw [List.getElem?_append_left (by simpa using hi), List.getElem?_map, h]
    rfl
  refine { sub := l, ext := Le.refl S, new := fun a o q => .inl ⟨o, q⟩, fr := fun a o q _ => q, rf := fun a q => ?_, tmp := .nil, len := ?_, slot := fun i sv h => ?_, dist := fun a => ?_ }
  · have q : r = some a := q
    subst q
    cases m with
    | none => exact hr.elim
    | some k => exact hr.2.there
  · rw [entry_len]
    unfold L2.start
    rw [List.length_append, List.length_map, List.length_replicate, lw]
    omega
  · rcases entry_get h with ⟨k, rfl, rfl, rfl⟩ | ⟨d, j, h1, rfl, rfl⟩
    · cases r with
      | none => exact hr.elim
      | some p => exact ⟨.ref p, get 0 _ rfl, p, rfl, rfl, hr.1, hr.2.cfg rfl rfl⟩
    · obtain ⟨v, h2, h3⟩ := rs.get h1
      refine ⟨v, get _ v ?_, h3⟩
      rw [← hrm]
      cases r with
      | none => exact h2
      | some p => exact h2
  · show ownT a [] [] + ownS a (entry m ds n) (start N (refAdd r ws)) ≤ 1
    cases m with
    | none =>
      have := ownS_vals a ds n (start N (refAdd r ws))
      show 0 + ownS a (ds.map (fun d => some (Sv.val d)) ++ List.replicate n none) _ ≤ 1
      omega
    | some k =>
      cases hs : start N (refAdd r ws) with
      | nil => show 0 + ownS a (some (.bor k) :: _) [] ≤ 1; simp [ownS]
      | cons y σ =>
        have := ownS_vals a ds n σ
        show 0 + (ownO a (some (.bor k)) y + ownS a (ds.map (fun d => some (Sv.val d)) ++ List.replicate n none) σ) ≤ 1
        have l1 : ownO a (some (.bor k)) y ≤ 1 := by
          cases y with
          | none => simp [ownO]
          | some v => exact own1_le a _ v
        omega
/-- the end: the slots go -/
theorem RepAt.bare {S : Hp} {ts : List Sv} {vs : List V} {e : PEnv} {σ : L2.St} {H : Hp} (R : RepAt C S ts vs e σ H) : RepAt C S ts vs [] [] H :=
  { R with len := rfl, slot := fun i sv h => by simp at h, dist := fun a => by have := R.dist a; show ownT a ts vs + 0 ≤ 1; omega }
theorem RepAt.noT {S : Hp} {ts : List Sv} {vs : List V} {e : PEnv} {σ : L2.St} {H : Hp} (R : RepAt C S ts vs e σ H) : RepAt C S [] [] e σ H :=
  R.tmps .nil fun a => by show 0 ≤ _; exact Nat.zero_le _
theorem RepAt.noT1 {S : Hp} {ts : List Sv} {vs : List V} {e : PEnv} {σ : L2.St} {H : Hp} {t : Sv} {v : V} (R : RepAt C S (t :: ts) (v :: vs) e σ H) : RepAt C S [t] [v] e σ H :=
  R.tmps (.cons R.top .nil) fun a => by show own1 a t v + 0 ≤ own1 a t v + ownT a ts vs; omega
theorem RepAt.ref {K : PySem.W.Frag} {mg : Str → Option Value} {S S' H H' : Hp} {ts : List Sv} {vs : List V} {e : PEnv} {σ : L2.St} {r : Option Addr} {P : Option M → Prop} (R : RepAt (cfg0 K mg S H r) S' ts vs e σ H') (hf : finR r.isSome e P) : ∃ m', refRep K mg S' H' r m' ∧ P m' := by
  cases r with
  | none => exact ⟨none, trivial, hf⟩
  | some p =>
    unfold finR at hf
    simp only [Option.isSome_some] at hf
    split at hf
    · rename_i m h
      obtain ⟨v, _, a, rfl, ha, h1, h2⟩ := R.slot 0 _ h
      have ha : some p = some a := ha
      cases ha
      exact ⟨some m, ⟨h1, h2.cfg rfl rfl⟩, hf⟩
    · exact hf.elim
theorem fn_def {P : Program} {w : World} {K : PySem.W.Frag} {mg : Str → Option Value} {base : Heap} {x qual : Str} {params : Arguments} {body : List Stmt} {scope : Scope} {f : Addr} {fd : FuncData} {kws : List (Str × V)} {N ps : List Str} {k nloc : Nat} {ref : Bool} {p : XC → pS}
    (F : FunD K x qual params body scope [] kws f fd) (S : FnScope N ps scope) (hn : ps.length + nloc = N.length)
    (hb : ∀ (cdv : Value) (A : Around) (outer : List Env) (s : Shared) (H : Hp) (E : XK) (C : Cfg) (xc : XC), C.K = K → C.mg = mg → C.ex = none → Room k (A.deeper (envOfC qual scope s.heap.objs.size f cdv)) →
      (∀ cls d σ H', canX C xc cls d σ H' → E cls d H') → PSs (cxOf (L2.CX P w) P w K mg base N qual scope f cdv A outer s H E) body (canS C (p xc))) :
    FnOk P w K mg base (L2.CX P w) (k + 1) f fd ps (l2sp K mg (semFn nloc ps.length ref p)) := by
  have len : ∀ vs H Q E, l2sp K mg (semFn nloc ps.length ref p) vs H Q E → vs.length = ps.length := fun vs H Q E ⟨S, r, m, ds, ws, _, _, _, e1, rs, hr, ⟨⟨h1, h2⟩, _⟩, _⟩ => by
    subst e1
    rw [← h2, rs.length]
    cases r with
    | none =>
      cases m with
      | none => subst h1; simp [refAdd]
      | some _ => exact hr.elim
    | some p =>
      cases m with
      | none => exact hr.elim
      | some _ => subst h1; simp [refAdd]; omega
  refine F.ok S len fun cdv A outer s H vs Q E hr h => ?_
  obtain ⟨S0, r, m, ds, ws, PP, PX, l, e1, rs, hrr, ⟨⟨h1, h2⟩, hp⟩, kq, kx⟩ := h
  subst e1
  have hri : r.isSome = ref := by
    rw [← h1]
    cases r <;> cases m <;> first | rfl | exact hrr.elim
  refine ⟨_, hb cdv A outer s H E (cfg0 K mg S0 H r) (fun x e => finR ref e (PX x)) rfl rfl rfl hr (fun cls d σ H' hx => ?_), ?_⟩
  · obtain ⟨ts, vs, e, x, S', R, hat, hf⟩ := hx
    rw [← hri] at hf
    obtain ⟨m', hm, hP⟩ := R.ref hf
    exact kx x m' cls d H' S' R.noT.bare hm hat hP
  · refine ⟨[], [], entry m ds nloc, _, ⟨S0, entry_rep l rs hrr (by rw [h1, h2, hn])⟩, hp, ?_, ?_, ?_, ?_⟩
    · intro e' σ' H' ⟨S', R⟩ hf
      have hf : finR ref e' (PP (.val .non)) := hf
      rw [← hri] at hf
      obtain ⟨m', hm, hP⟩ := R.ref hf
      exact kq _ m' .non H' S' (R.pushV .non).noT1.bare hm hP
    · intro sv e' v σ' H' ⟨S', R⟩ ⟨_, hf⟩
      rw [← hri] at hf
      obtain ⟨m', hm, hP⟩ := R.ref hf
      exact kq sv m' v H' S' R.noT1.bare hm hP
    · intro e' σ' H' _ hf; exact hf.elim
    · intro e' σ' H' _ hf; exact hf.elim
end
end PL
set_option Elab.async false
set_option linter.all false
set_option maxRecDepth 100000
set_option maxHeartbeats 4000000
/-! PL8: own exceptions under ValueError whose __init__ says super().__init__(text) and sets fields. -/
namespace PLX
open PySem PySem.Spec PySem.W PySem.Calls PyProof.Rows PySem.HandSPX

/-- the first row of __init__ -/
abbrev supRow (text : Str) (k : Nat) (p0 p1 p2 p3 p4 p5 : Pos) : Stmt := .Expr (.Call (.Attribute (.Call (.Name "super" p0) [] [] p1) "__init__" p2) [.Constant (.str text) k p5] [] p3) p4
/-- a field's row -/
abbrev fldRow (f : Str) (q1 q2 q3 q4 : Pos) : Stmt := .Assign [.Attribute (.Name "self" q1) f q2] (.Name f q3) q4

/-- what is told of the class at C with its __init__ at fI -/
structure OwnC (P : Program) (K : Frag) (C fI : Addr) (qual : Str) (params : Arguments) (body : List Stmt) (scope : Scope) (fs : List Str) : Prop where
  oex : L2.OexC K C
  noN : ∀ f ∈ fs, findIn K (.ref C) f = some none
  iC : findIn K (.ref C) "__init__" = some (some (.ref fI))
  tI : typeIn K (.ref fI) = some (.type "function")
  fn : ∃ (oc kV doc pm ct : Value) (od an : Option Addr) (osl : Array (Option Value)) (cc cda : Addr), K.lookup fI = some ⟨oc, od, .func (fnX "__init__" qual params body scope [("__class__", cc)] .none kV doc pm an (.ref cda) ct), osl⟩ ∧ codeIn K (.ref cda) qual = true ∧
    (∃ (cl : Value) (cd : Option Addr) (vs : Array Value) (sl : Array (Option Value)) (file : Str) (tf : Tok), K.lookup cda = some ⟨cl, cd, .fields vs, sl⟩ ∧ vs[2]? = some (.str file tf) ∧ ((P.main.file : Str) == file) = true) ∧
    ∃ (cl : Value) (cd : Option Addr) (sl : Array (Option Value)), K.lookup cc = some ⟨cl, cd, .cell (some (.ref C)), sl⟩
  up : ks_superIn K C C "__init__" = some (some (.builtin "ValueError.__init__"))
  sub : mroIn K C (.ref C) = some true
  isV : subIn K (.ref C) (.type "ValueError") = some true
  any : nsIn K cStatics "thirdparty.any" = some none
/-- .. and of its text -/
structure OwnS (P : Program) (params : Arguments) (scope : Scope) (fs : List Str) : Prop where
  hd : ∃ ar, (params.posonlyargs ++ params.args).head? = some ar ∧ ar.arg = "self"
  sup : scope.names.lookup ("super" : Str) = some .globalImplicit
  cls : scope.names.lookup ("__class__" : Str) = some .free
  slf : scope.names.lookup ("self" : Str) = some .local
  loc : ∀ f ∈ fs, scope.names.lookup f = some .local
  top : (P.main.scope.names.lookup ("super" : Str)).isSome = false
  cell : ∀ x ∈ scope.names, x.2 ≠ .cell
  co : scope.isCoroutine = false
  gen : scope.isGenerator = false
  kind : scope.kind = .function
  nd : (("self" : Str) :: fs).Nodup
  bind : ∀ (qual : Str) (body : List Stmt) (cc : Addr) (kV doc pm ct cdv : Value) (an : Option Addr) (s : Shared) (us : List Value), us.length = fs.length + 1 → BindsTo s (fnX "__init__" qual params body scope [("__class__", cc)] .none kV doc pm an cdv ct) ⟨us, []⟩ ((("self" : Str) :: fs).zip us)

section
variable {prog : Program} {w : World} {A : Around} {E : Value → Shared → Prop} {R : Result → Shared → Prop} {K : Frag} {C fI : Addr} {qual : Str} {params : Arguments} {body : List Stmt} {scope : Scope} {fs : List Str}

theorem meth_eq {o : Expr} {name : Str} {apos pos : Pos} {args : List Expr} {env : Env} (hp : (apos.endLine == pos.line) = true) {pl : Sem Bool} (hpl : pl = (do return (← importBound o env).getD true)) (hm : methodCallForm (args.length + 0) (backTo pos (starEach args env)) (backToKw pos (keywordEach [] env)) = true) : eval (.Call (.Attribute o name apos) args [] pos) env = (do
      let ov ← attributeBase o name env (eval o env)
      standAt apos.atName
      let (f, first) ← holding [ov] (getMethod ov name pl)
      callWith pos f first (backTo pos (starEach args env)) []) := by
  have e : ∀ few, methodCallPos few o env apos pos = pure pos := fun few => by
    unfold methodCallPos
    rw [hp, Bool.or_true]
    rfl
  subst hpl
  show (do
    let ov ← attributeBase o name env (eval o env)
    standAt apos.atName
    methodCall o name apos pos env ov (args.length + 0) (backTo pos (starEach args env)) (backToKw pos (keywordEach [] env))) = _
  unfold methodCall
  rw [e, hm]
  rfl
theorem call_bound {hp : Heap} {g : Array GenState} {d : Drawn} {t : Nat} {os : OsState} {u x t0 : Addr} {rest : List Value} {Q : Value → Shared → Prop} (T : L2.OexC K C) (X : K.In hp) (hu : hp.get? u = some (kxs_mw "ValueError.__init__" x)) (hx : hp.get? x = some (excO C t0)) (hz : rest.length ≤ sizeLine)
    (h : ∀ h' t1, (∀ b o, b ≠ x → hp.get? b = some o → h'.get? b = some o) → h'.get? x = some (excO C t1) → Q .none ⟨h', g, d, t, os⟩) : wpAny (model prog w) A (call (.ref u) rest) Q E ⟨hp, g, d, t, os⟩ := by
  obtain ⟨nm, q, N, bs, bm, sn, sub, ab, col, dd, k0, k1, k2, k3, k5, hC, hbm⟩ := T.cls
  refine wpAny_call (codeAny_of_tree ?_)
  show wpAny _ A.in1 (callAny (.ref u) ⟨rest, []⟩) _ _ _
  simp only [callAny]
  refine wpAny_bind (wpAny_load hu ?_)
  simp only [kxs_mw, show (Value.type "method-wrapper" == Value.type "method" || Value.type "method-wrapper" == Value.type "builtin_function_or_method" || Value.type "method-wrapper" == Value.type "method-wrapper") = true by decide, if_true]
  refine KFB.if_so (by decide) ?_
  refine wpAny_bind (check_bound_init F.excBase_ValueError.toExcCallFacts (X _ _ hC) hx rfl ?_)
  refine wpAny_bind (wpAny_pure (wpAny_pure ?_))
  refine ⟨plainId_quiet F.excBase_ValueError.init.plain _, codeAny_builtin F.excBase_ValueError.initEntry ?_⟩
  exact exc_init_tree (cls := .ref C) (t0 := t0) (dv := none) (c2 := .none) (c3 := .none) (b4 := .bool false) hx hz fun h' k e _ => h h' _ k e
/-- super().__init__(text) -/
theorem sup_row {text : Str} {kk : Nat} {p0 p1 p2 p3 p4 p5 : Pos} {rest : List Stmt} {L cc cda : Addr} {m mg mb : Str → Option Value} {x t0 : Addr} {Q : Flow → Shared → Prop} {hp : Heap} {g : Array GenState} {d : Drawn} {t : Nat} {os : OsState} {oc dV kV doc pm ct : Value} {od an : Option Addr} {osl : Array (Option Value)}
    (hpos : (p2.endLine == p3.line) = true) (T : OwnC prog K C fI qual params body scope fs) (U : OwnS prog params scope fs) (ho : K.lookup fI = some ⟨oc, od, .func (fnX "__init__" qual params body scope [("__class__", cc)] dV kV doc pm an (.ref cda) ct), osl⟩)
    (hcode : ∃ (cl : Value) (cd : Option Addr) (vs : Array Value) (sl : Array (Option Value)) (file : Str) (tf : Tok), K.lookup cda = some ⟨cl, cd, .fields vs, sl⟩ ∧ vs[2]? = some (.str file tf) ∧ ((prog.main.file : Str) == file) = true)
    (hcell : ∃ (cl : Value) (cd : Option Addr) (sl : Array (Option Value)), K.lookup cc = some ⟨cl, cd, .cell (some (.ref C)), sl⟩)
    (X : K.In hp) (hn : hp.Ns L m) (hv : m "self" = some (.ref x)) (hx : hp.get? x = some (excO C t0)) (hg : hp.Ns mainGlobals mg) (hmg : mg "super" = none) (hb : hp.Ns builtinsNs mb) (hmb : mb "super" = some (.type "super"))
    (h : ∀ h' t1 tk, (∀ b o, b ≠ x → hp.get? b = some o → h'.get? b = some o) → h'.get? x = some (excO C t1) → wpAny (model prog w) A (execs rest (ksEnv qual scope L fI (.ref cda) cc)) Q E ⟨h', g, d, tk, os⟩) :
    _root_.PySem.wpAt (model prog w) A (.func body (ksEnv qual scope L fI (.ref cda) cc)) (execs (supRow text kk p0 p1 p2 p3 p4 p5 :: rest) (ksEnv qual scope L fI (.ref cda) cc)) Q E ⟨hp, g, d, t, os⟩ := by
  obtain ⟨nm, q, N, bs, bm, sn, sub, ab, col, dd, k0, k1, k2, k3, k5, hC, hbm⟩ := T.oex.cls
  obtain ⟨ccl, cdd, vs, ccs, file, tf, hcode, hvs, hfile⟩ := hcode
  obtain ⟨cl, cld, csl, hcell⟩ := hcell
  obtain ⟨ar, har, ear⟩ := U.hd
  have hcl : clsIn K C = some { name := nm, bases := bs, mro := .ref C :: bm, ns := N, qualname := q, hasDict := true, slotNames := sn, subclasses := sub, abstract := ab, collection := col, hasDel := false } := by unfold clsIn; rw [hC] <;> rfl
  have hxC : x ≠ C := by
    rintro rfl
    have e := X _ _ hC
    rw [hx] at e
    cases e
  have hup := T.up
  unfold ks_superIn at hup
  rw [hcl, Option.bind_some] at hup
  refine ks_wpAt_execs_cons ?_
  refine ks_wpAt_Expr_any ?_ (hi := by unfold interactive; rw [show (ksEnv qual scope L fI (.ref cda) cc).scope.kind = .function from U.kind]; rfl)
  refine ks_wpAt_MethodCall ?_ (he := meth_eq hpos rfl (by rfl))
  refine ks_wpAt_super_base (env := ksEnv qual scope L fI (.ref cda) cc) U.sup U.cls (by decide +kernel) rfl (X _ _ ho) rfl har rfl (X _ _ hcode) rfl hvs hfile U.top ?_
  refine ks_loadName_global U.kind U.sup (loadGlobal_builtin (env := ksEnv qual scope L fI (.ref cda) cc) hg hmg hb hmb ⟨rfl, ?_⟩)
  refine wpAny_loadName_free U.kind U.cls rfl ⟨_, X _ _ hcell, rfl⟩ ?_
  rw [ear]
  refine wpAny_loadName_local U.kind U.slf hn hv ?_
  refine ks_wpAny_isType_cls (X _ _ hC) rfl ⟨rfl, ?_⟩
  refine ks_wpAny_call_super (X _ _ hC) rfl hx rfl (fun c e => nomatch e) (looks_mroIn X T.sub) (fun h1 e1 kp1 => ?_)
  have X1 : K.In h1 := X.keeps kp1
  have hx1 := kp1 _ _ hx
  have I1 : InstAt h1 x (excO C t0) C none := ⟨hx1, rfl, rfl, trivial⟩
  have hI : Looks (model prog w) h1 (isInstance (.ref x) (.type "ValueError")) true := I1.type.andThen (looks_subIn X1 T.isV)
  refine kxs_getMethod kxs_ValueError e1 (looks_opaque X1 T.any) (l₀ := .ref C :: bm) (fun A Q E s k q => wpAny_bind ((looks_clsIn X1 hcl) A _ E s k (wpAny_pure q))) rfl X1 hup hI hxC (by decide +kernel) ?_
  have hne : h1.objs.size ≠ x := Nat.ne_of_gt (Heap.lt_size hx1)
  refine kxs_callWith (i := "ValueError.__init__") (x := x) rfl ?_
  show wpAny _ _ (evalArgs _ true [(false, eval (.Constant (.str text) kk p5) (ksEnv qual scope L fI (.ref cda) cc))] []) _ _ _
  refine evalArgs_plain ?_
  refine Calls.spliced_cons (wpAny_Constant_str (Calls.spliced_nil ?_))
  have hu : (h1.push (kxs_mw "ValueError.__init__" x)).get? h1.objs.size = some (kxs_mw "ValueError.__init__" x) := Heap.get?_push_at rfl rfl
  refine ⟨hu, ?_⟩
  have X2 : K.In (h1.push (kxs_mw "ValueError.__init__" x)) := X1.keeps fun b o e => Heap.get?_push_of_some _ e
  refine call_bound T.oex X2 hu (Heap.get?_push_of_some _ hx1) (by show 1 ≤ sizeLine; decide) fun h' t1 k' hx' => ?_
  exact _root_.PySem.wpAt_of_wpAny (h h' t1 _ (fun b o hb e => k' b o hb (Heap.get?_push_of_some _ (kp1 b o e))) hx')

/-- the fields so far, the latest first -/
def fm : List (Str × Value) → Str → Option Value
  | [], _ => none
  | (f, v) :: r, y => if y = f then some v else fm r y
theorem fm_in : ∀ (l : List (Str × Value)), Within (fm l) (l.map (·.1))
  | [], y, h => absurd rfl h
  | (f, v) :: r, y, h => by
    by_cases e : y = f
    · subst e; exact List.mem_cons_self
    · refine List.mem_cons_of_mem _ (fm_in r y fun z => h ?_)
      show (if y = f then some v else fm r y) = none
      rw [if_neg e]; exact z
inductive FldRows : List Str → List Stmt → Prop
  | nil : FldRows [] []
  | cons {f : Str} {fs : List Str} {q1 q2 q3 q4 : Pos} {sts : List Stmt} (r : FldRows fs sts) (hd : (f == ("__debug__" : Str)) = false) : FldRows (f :: fs) (fldRow f q1 q2 q3 q4 :: sts)
/-- the fields of a list of names, as the parameters have them -/
def fvs (done : List (Str × Value)) : List Str → List Value → List (Str × Value)
  | f :: fs, v :: vs => fvs ((f, v) :: done) fs vs
  | _, _ => done
theorem ldX {M : Model} {s : Shared} {L f0 : Addr} {cd : Value} {cc : Addr} {m : Str → Option Value} {x : Str} {pos : Pos} {v : Value} {Q : Value → Shared → Prop} (hk : scope.kind = .function) (hl : scope.names.lookup x = some .local) (hd : (x == ("__debug__" : Str)) = false) (hn : s.heap.Ns L m) (hv : m x = some v) (h : Q v s) :
    wpAny M A (eval (.Name x pos) (ksEnv qual scope L f0 cd cc)) Q E s := wpAny_Name (wpAny_loadName_local (env := ksEnv qual scope L f0 cd cc) hk hl hn hv h) hd
theorem rows_old (T : L2.OexC K C) (hk : scope.kind = .function) (hslf : scope.names.lookup ("self" : Str) = some .local) {L f0 cc dx x : Addr} {cd : Value} {m : Str → Option Value} {fv : Array Value} {Q : Flow → Shared → Prop} {g : Array GenState} {d : Drawn} {os : OsState} (hxL : m "self" = some (.ref x)) (hdL : L ≠ dx) (hdx : x ≠ dx) :
    ∀ {fs : List Str} {sts : List Stmt}, FldRows fs sts → ∀ (vs : List Value) (done : List (Str × Value)) (hp : Heap) (t : Nat), (∀ f ∈ fs, findIn K (.ref C) f = some none ∧ scope.names.lookup f = some .local) → vs.length = fs.length → (∀ (i : Nat) f v, fs[i]? = some f → vs[i]? = some v → m f = some v) →
      done.length + fs.length ≤ 900 → K.In hp → K.lookup dx = none → hp.Ns L m → hp.get? x = some { cls := .ref C, dict := some dx, data := .fields fv } → hp.Ns1 dx (fm done) →
      (∀ h' tk, (∀ b o, b ≠ dx → hp.get? b = some o → h'.get? b = some o) → h'.Ns1 dx (fm (fvs done fs vs)) → Q .next ⟨h', g, d, tk, os⟩) → wpAny (model prog w) A (execs sts (ksEnv qual scope L f0 cd cc)) Q E ⟨hp, g, d, t, os⟩ := by
  obtain ⟨nm, q, N, bs, bm, sn, sub, ab, col, dd, k0, k1, k2, k3, k5, hC, hbm⟩ := T.cls
  have hcl : clsIn K C = some { name := nm, bases := bs, mro := .ref C :: bm, ns := N, qualname := q, hasDict := true, slotNames := sn, subclasses := sub, abstract := ab, collection := col, hasDel := false } := by unfold clsIn; rw [hC] <;> rfl
  intro fs sts r
  induction r with
  | nil =>
    intro vs done hp t _ hl _ _ _ _ _ _ hns h
    exact wpAny_execs_nil (h hp t (fun b o _ e => e) (by cases vs <;> exact hns))
  | @cons f fs q1 q2 q3 q4 sts r hdb ih =>
    intro vs done hp t hf hl hm hz X hKd hn hx hns h
    cases vs with
    | nil => simp at hl
    | cons v vs =>
      have hmv : m f = some v := hm 0 f v rfl rfl
      obtain ⟨oD, _, _, hoD, _, _⟩ := hns.count (fm_in done)
      refine wpAny_execs_cons (plainObj_wpAny_Assign_Attribute ?_)
      refine ldX hk (hf f List.mem_cons_self).2 hdb hn hmv (ldX hk hslf (by decide) hn hxL ?_)
      refine set_plain X (ox := { cls := .ref C, dict := some dx, data := .fields fv }) (od := some oD) ⟨hx, rfl, rfl, hoD⟩ T.sa ?_
      refine PySem.OEX.osa_old X hx hns (fm_in done) (by rw [List.length_map]; simp only [List.length_cons] at hz; omega) hcl (show refsVE (.ref C :: bm) = true from hbm) rfl (hf f List.mem_cons_self).1 fun h' tk' k' hn' => ?_
      refine ih vs ((f, v) :: done) h' tk' (fun y hy => hf y (List.mem_cons_of_mem _ hy)) (by simpa using hl) (fun i y u h1 h2 => hm (i + 1) y u (by simpa using h1) (by simpa using h2)) (by simp only [List.length_cons] at hz ⊢; omega) ?_ hKd ?_ ?_ hn' ?_
      · exact fun a o e => k' a o (fun z => by rw [z, hKd] at e; cases e) (X a o e)
      · exact hn.at fun o q => k' L o hdL q
      · exact k' x _ hdx hx
      · exact fun h'' tk'' k'' hn'' => h h'' tk'' (fun b o hb e => k'' b o hb (k' b o hb e)) hn''
/-- behind the fields' rows -/
structure MadeX (h h' : Heap) (x C t1 : Addr) (dO : Option Addr) (fvals : List (Str × Value)) : Prop where
  keep : ∀ b o, b ≠ x → h.get? b = some o → h'.get? b = some o
  obj : h'.get? x = some { cls := .ref C, dict := dO, data := .fields #[.ref t1, .none, .none, .none, .bool false, .none] }
  dict : match dO with
    | none => fvals = []
    | some dx => h.objs.size ≤ dx ∧ dx ≠ x ∧ h'.Ns1 dx (fm fvals)
theorem rows_new (T : L2.OexC K C) (hk : scope.kind = .function) (hslf : scope.names.lookup ("self" : Str) = some .local) {L f0 cc x t1 : Addr} {cd : Value} {m : Str → Option Value} {Q : Flow → Shared → Prop} {g : Array GenState} {d : Drawn} {os : OsState} (hxL : m "self" = some (.ref x))
    {fs : List Str} {sts : List Stmt} (r : FldRows fs sts) {vs : List Value} {hp : Heap} {t : Nat} (hf : ∀ f ∈ fs, findIn K (.ref C) f = some none ∧ scope.names.lookup f = some .local) (hl : vs.length = fs.length) (hm : ∀ (i : Nat) f v, fs[i]? = some f → vs[i]? = some v → m f = some v)
    (hz : fs.length ≤ 900) (X : K.In hp) (hKx : K.lookup x = none) (hLx : L ≠ x) (hn : hp.Ns L m) (hx : hp.get? x = some (excO C t1))
    (h : ∀ h' tk dO, MadeX hp h' x C t1 dO (fvs [] fs vs) → Q .next ⟨h', g, d, tk, os⟩) : wpAny (model prog w) A (execs sts (ksEnv qual scope L f0 cd cc)) Q E ⟨hp, g, d, t, os⟩ := by
  obtain ⟨nm, q, N, bs, bm, sn, sub, ab, col, dd, k0, k1, k2, k3, k5, hC, hbm⟩ := T.cls
  have hcl : clsIn K C = some { name := nm, bases := bs, mro := .ref C :: bm, ns := N, qualname := q, hasDict := true, slotNames := sn, subclasses := sub, abstract := ab, collection := col, hasDel := false } := by unfold clsIn; rw [hC] <;> rfl
  cases r with
  | nil => exact wpAny_execs_nil (h hp t none ⟨fun b o _ e => e, hx, by cases vs <;> rfl⟩)
  | @cons f fs q1 q2 q3 q4 sts r hdb =>
    cases vs with
    | nil => simp at hl
    | cons v vs =>
      have hmv : m f = some v := hm 0 f v rfl rfl
      refine wpAny_execs_cons (plainObj_wpAny_Assign_Attribute ?_)
      refine ldX hk (hf f List.mem_cons_self).2 hdb hn hmv (ldX hk hslf (by decide) hn hxL ?_)
      refine set_plain X (ox := excO C t1) (od := none) ⟨hx, rfl, rfl, trivial⟩ T.sa ?_
      refine exc_osa X hx hcl (show refsVE (.ref C :: bm) = true from hbm) rfl (hf f List.mem_cons_self).1 (fun h₃ tk₃ dx k₃ dn dne hx₃ hn₃ => ?_)
      have nd : ∀ {b : Addr} {o : Obj}, hp.get? b = some o → b ≠ dx := fun {b o} e => Nat.ne_of_lt (Nat.lt_of_lt_of_le (Heap.lt_size e) dn)
      obtain ⟨oL, _, _, hoL, _⟩ := id hn
      have hKd : K.lookup dx = none := by
        cases e : K.lookup dx with
        | none => rfl
        | some o => exact absurd rfl (nd (X _ _ e))
      refine rows_old (prog := prog) (w := w) (A := A) (E := E) (qual := qual) T hk hslf (dx := dx) (fv := #[.ref t1, .none, .none, .none, .bool false, .none]) hxL (nd hoL) (Ne.symm dne) r vs [(f, v)] h₃ tk₃ (fun y hy => hf y (List.mem_cons_of_mem _ hy)) (by simpa using hl) (fun i y u h1 h2 => hm (i + 1) y u (by simpa using h1) (by simpa using h2)) (by simp only [List.length_cons, List.length_nil] at hz ⊢; omega) ?_ hKd ?_ hx₃ hn₃ ?_
      · exact fun a o e => k₃ a o (fun z => by rw [z, hKx] at e; cases e) (X a o e)
      · exact hn.at fun o q => k₃ L o hLx q
      · intro h' tk k' hn'
        exact h h' tk (some dx) ⟨fun b o hb e => k' b o (nd e) (k₃ b o hb e), k' x _ (Ne.symm dne) hx₃, dn, dne, hn'⟩

theorem lookup_nd {y : Str} {v : Value} : ∀ {l : List (Str × Value)}, (l.map (·.1)).Nodup → (y, v) ∈ l → l.lookup y = some v
  | [], _, h => by cases h
  | (f, u) :: l, hn, h => by
    rw [List.map_cons, List.nodup_cons] at hn
    rcases List.mem_cons.mp h with e | h
    · cases e
      simp [List.lookup]
    · have ne : y ≠ f := fun z => hn.1 (List.mem_map.mpr ⟨(y, v), h, z⟩)
      have : (y == f) = false := by simpa using ne
      rw [List.lookup_cons, this]
      exact lookup_nd hn.2 h
theorem keys_zip : ∀ {fs : List Str} {vs : List Value}, vs.length = fs.length → (fs.zip vs).map (·.1) = fs
  | [], [], _ => rfl
  | f :: fs, v :: vs, h => by
    rw [List.zip_cons_cons, List.map_cons, keys_zip (by simpa using h)]
  | [], _ :: _, h => by simp at h
  | _ :: _, [], h => by simp at h
theorem own_init {text : Str} {kk : Nat} {p0 p1 p2 p3 p4 p5 : Pos} {rows : List Stmt} {mg mb : Str → Option Value} {x t0 : Addr} {hp : Heap} {g : Array GenState} {d : Drawn} {t : Nat} {os : OsState} {vs : List Value}
    (hpos : (p2.endLine == p3.line) = true) (T : OwnC prog K C fI qual params (supRow text kk p0 p1 p2 p3 p4 p5 :: rows) scope fs) (U : OwnS prog params scope fs) (r : FldRows fs rows) (hz : fs.length ≤ 900)
    (X : K.In hp) (hlim : hp.NoLimit) (hx : hp.get? x = some (excO C t0)) (hKx : K.lookup x = none) (hroom : A.depth < recursionLimit) (hg : hp.Ns mainGlobals mg) (hmg : mg "super" = none) (hb : hp.Ns builtinsNs mb) (hmb : mb "super" = some (.type "super")) (hl : vs.length = fs.length)
    (nG : x ≠ mainGlobals) (nB : x ≠ builtinsNs)
    (hq : ∀ h' tk t1 dO, MadeX hp h' x C t1 dO (fvs [] fs vs) → R (.ok (.ret .none)) ⟨h', g, d, tk, os⟩) : codeAny (model prog w) A (.call (.ref fI) ⟨.ref x :: vs, []⟩) R ⟨hp, g, d, t, os⟩ := by
  obtain ⟨oc, kV, doc, pm, ct, od, an, osl, cc, cda, ho, hcd, hcode, hcell⟩ := T.fn
  have hu : (Value.ref x :: vs).length = (("self" : Str) :: fs).length := by simp [hl]
  have hk := keys_zip hu
  have hnd : ((((("self" : Str) :: fs).zip (Value.ref x :: vs)).reverse).map (·.1)).Nodup := by
    rw [List.map_reverse, hk]
    exact (List.reverse_perm _).nodup_iff.mpr U.nd
  have look : ∀ (i : Nat) f v, (("self" : Str) :: fs)[i]? = some f → (Value.ref x :: vs)[i]? = some v → ((("self" : Str) :: fs).zip (Value.ref x :: vs)).reverse.lookup f = some v := fun i f v h1 h2 =>
    lookup_nd hnd (List.mem_reverse.mpr (List.mem_of_getElem? (i := i) (by rw [List.getElem?_zip_eq_some]; exact ⟨h1, h2⟩)))
  refine ks_codeAny_call_defAt (s := ⟨hp, g, d, t, os⟩) (fd := fnX "__init__" qual params (supRow text kk p0 p1 p2 p3 p4 p5 :: rows) scope [("__class__", cc)] .none kV doc pm an (.ref cda) ct) (body := supRow text kk p0 p1 p2 p3 p4 p5 :: rows) (binds := (("self" : Str) :: fs).zip (Value.ref x :: vs))
    hroom (X _ _ ho) rfl hlim (codeRec_of X hcd) rfl (U.bind qual _ cc kV doc pm ct (.ref cda) an _ (Value.ref x :: vs) (by simp [hl])) U.cell (fun y hy => ?_) (fun h₁ hns k₁ => ?_) U.co U.gen U.kind
  · have hm : y.1 ∈ (("self" : Str) :: fs) := by rw [← hk]; exact List.mem_map.mpr ⟨y, hy, rfl⟩
    rcases List.mem_cons.mp hm with e | hm
    · rw [e]; exact U.slf
    · exact U.loc _ hm
  · have X1 : K.In h₁ := X.keeps k₁
    have hx1 := k₁ _ _ hx
    have hLx : hp.objs.size ≠ x := Nat.ne_of_gt (Heap.lt_size hx)
    refine sup_row (x := x) hpos T U ho hcode hcell X1 hns (look 0 _ _ rfl rfl) hx1 (hg.keeps k₁) hmg (hb.keeps k₁) hmb fun h2 t1 tk k2 hx2 => ?_
    have hns2 : h2.Ns hp.objs.size _ := hns.at fun o q => k2 _ o hLx q
    refine rows_new (L := hp.objs.size) T.oex U.kind U.slf (look 0 _ _ rfl rfl) r (fun f hf => ⟨T.noN f hf, U.loc f hf⟩) hl (fun i f v h1 h2 => look (i + 1) f v (by simpa using h1) (by simpa using h2)) hz (fun a o e => k2 a o (fun z => by rw [z, hKx] at e; cases e) (X1 a o e)) hKx hLx hns2 hx2 fun h' tk' dO M => ?_
    refine hq h' tk' t1 dO ⟨fun b o hb e => M.keep b o hb (k2 b o hb (k₁ b o e)), M.obj, ?_⟩
    have dd := M.dict
    cases dO with
    | none => exact dd
    | some dx =>
      obtain ⟨d1, d2, d3⟩ := dd
      have hL : hp.objs.size < h2.objs.size := by
        obtain ⟨oL, _, _, hoL, _⟩ := hns2
        exact Heap.lt_size hoL
      exact ⟨by omega, d2, d3⟩
/-- a made one -/
structure MadeO (h h' : Heap) (e C : Addr) (dO : Option Addr) (fvals : List (Str × Value)) : Prop where
  keep : ∀ b o, h.get? b = some o → h'.get? b = some o
  new : h.objs.size ≤ e
  obj : ∃ t1 : Addr, h'.get? e = some { cls := .ref C, dict := dO, data := .fields #[.ref t1, .none, .none, .none, .bool false, .none] }
  dict : match dO with
    | none => fvals = []
    | some dx => h.objs.size ≤ dx ∧ dx ≠ e ∧ h'.Ns1 dx (fm fvals)
theorem own_made {text : Str} {kk : Nat} {p0 p1 p2 p3 p4 p5 : Pos} {rows : List Stmt} {mg mb : Str → Option Value} {hp : Heap} {g : Array GenState} {d : Drawn} {t : Nat} {os : OsState} {vs : List Value}
    (hpos : (p2.endLine == p3.line) = true) (T : OwnC prog K C fI qual params (supRow text kk p0 p1 p2 p3 p4 p5 :: rows) scope fs) (U : OwnS prog params scope fs) (r : FldRows fs rows) (hz : fs.length ≤ 900)
    (X : K.In hp) (hlim : hp.NoLimit) (hroom : A.depth + 1 < recursionLimit) (hg : hp.Ns mainGlobals mg) (hmg : mg "super" = none) (hb : hp.Ns builtinsNs mb) (hmb : mb "super" = some (.type "super")) (hl : vs.length = fs.length)
    (hq : ∀ h' tk e dO, MadeO hp h' e C dO (fvs [] fs vs) → R (.ok (.ret (.ref e))) ⟨h', g, d, tk, os⟩) : codeAny (model prog w) A (.call (.ref C) ⟨vs, []⟩) R ⟨hp, g, d, t, os⟩ := by
  obtain ⟨nm, q, N, bs, bm, sn, sub, ab, col, dd, k0, k1, k2, k3, k5, hC, hbm⟩ := T.oex.cls
  have k : ∀ b o, hp.get? b = some o → ((hp.push (kdv_tup vs)).push (excO C hp.objs.size)).get? b = some o := fun b o e => Heap.get?_push_of_some _ (Heap.get?_push_of_some _ e)
  have hget : ((hp.push (kdv_tup vs)).push (excO C hp.objs.size)).get? (hp.objs.size + 1) = some (excO C hp.objs.size) := by heap_get
  have lt1 : ∀ {b : Addr} {o : Obj}, hp.get? b = some o → hp.objs.size + 1 ≠ b := fun {b o} z e => by
    subst e
    exact absurd (Nat.lt_of_succ_lt (Heap.lt_size z)) (Nat.lt_irrefl _)
  have hnx : K.lookup (hp.objs.size + 1) = none := by
    cases e : K.lookup (hp.objs.size + 1) with
    | none => rfl
    | some o => exact absurd rfl (lt1 (X _ _ e))
  obtain ⟨oG, _, _, hoG, _⟩ := id hg
  obtain ⟨oB, _, _, hoB, _⟩ := id hb
  have hvz : vs.length ≤ sizeLine := by rw [hl, sizeLine_eq]; omega
  refine call_own F.excBase_ValueError (fun X => refsVE_contains X bm hbm) (X _ _ hC) (looks_findIn X T.iC) (fun self => bind_fn X self T.tI) hvz ?_
  refine own_init hpos T U r hz (X.keeps k) (hlim.keeps k) hget hnx hroom (hg.keeps k) hmg (hb.keeps k) hmb hl (lt1 hoG) (lt1 hoB) fun h' tk' t1 dO M => ?_
  refine ⟨rfl, hq h' tk' (hp.objs.size + 1) dO ⟨fun b o e => M.keep b o (Ne.symm (lt1 e)) (k b o e), Nat.le_succ _, ⟨t1, M.obj⟩, ?_⟩⟩
  have dd := M.dict
  cases dO with
  | none => exact dd
  | some dx =>
    obtain ⟨d1, d2, d3⟩ := dd
    have : ((hp.push (kdv_tup vs)).push (excO C hp.objs.size)).objs.size = hp.objs.size + 1 + 1 := by rw [Heap.size_push, Heap.size_push]
    exact ⟨by omega, d2, d3⟩
end
end PLX
set_option Elab.async false
set_option linter.all false
set_option maxRecDepth 100000
set_option maxHeartbeats 4000000
/-! PL9: raise and try .. except over plain data. -/
namespace PLX
open PySem PySem.Spec PyProof.Rows L2 PL
open PySem.W (Frag)
def fvv (done : List (Str × V)) : List Str → List V → List (Str × V)
  | f :: fs, v :: vs => fvv ((f, v) :: done) fs vs
  | _, _ => done
def fvd (done : List (Str × D)) : List Str → List D → List (Str × D)
  | f :: fs, v :: vs => fvd ((f, v) :: done) fs vs
  | _, _ => done
theorem fvd_rep {K : Frag} {mg : Str → Option Value} {S : Hp} : ∀ {fs : List Str} {ds : List D} {vs : List V} {dn : List (Str × D)} {dv : List (Str × V)}, RpL K mg S ds vs → RpF K mg S dn dv → RpF K mg S (fvd dn fs ds) (fvv dv fs vs)
  | [], _, _, _, _, _, r => by unfold fvd fvv; exact r
  | f :: fs, _, _, _, _, .nil, r => by unfold fvd fvv; exact r
  | f :: fs, _, _, _, _, .cons q t, r => by
    show RpF K mg S (fvd ((f, _) :: _) fs _) (fvv ((f, _) :: _) fs _)
    exact fvd_rep t (.cons q r)
theorem fvv_rel : ∀ {fs : List Str} {vs : List V} {us : List Value} {dv : List (Str × V)} {du : List (Str × Value)}, Vals vs us → (∀ f, RelO (dv.lookup f) (fm du f)) → ∀ f, RelO ((fvv dv fs vs).lookup f) (fm (fvs du fs us) f)
  | [], _, _, _, _, _, r, f => by unfold fvv fvs; exact r f
  | g :: fs, _, _, _, _, .nil, r, f => by unfold fvv fvs; exact r f
  | g :: fs, _, _, dv, du, .cons q t, r, f => by
    refine fvv_rel (fs := fs) (dv := (g, _) :: dv) (du := (g, _) :: du) t (fun y => ?_) f
    exact relO_put q r y
theorem fvs_ne : ∀ {fs : List Str} {us : List Value} {dn : List (Str × Value)}, dn ≠ [] → fvs dn fs us ≠ []
  | [], _, _, h => h
  | _ :: _, [], _, h => h
  | f :: fs, u :: us, _, _ => fvs_ne (fs := fs) (List.cons_ne_nil _ _)
/-- C(e, ..) -/
def tMkX (C : Addr) (fs : List Str) (ta : TA) : L2.St → Hp → XK → Prop := fun σ H Q => ta σ H fun vs H1 => vs.length = fs.length ∧ ∀ d, H1 d = none → Q (.ref C) (some d) (upd H1 d (.xd (fvv [] fs vs)))
section
variable {X : Cx} {C fI : Addr} {e : Expr} {es : List Expr} {ta : TA} {x qual : Str} {p pos : Pos} {k : Nat} {params : Arguments} {scope : Scope} {fs : List Str} {text : Str} {kk : Nat} {p0 p1 p2 p3 p4 p5 : Pos} {rows : List Stmt}
theorem pmk_x (hpos : (p2.endLine == p3.line) = true) (T : OwnC X.prog X.K C fI qual params (supRow text kk p0 p1 p2 p3 p4 p5 :: rows) scope fs) (U : OwnS X.prog params scope fs) (r : FldRows fs rows) (hz : fs.length ≤ 900) (hne : fs ≠ []) (hr : Room k X.A)
    (hg : Gl X x) (hm : X.mg x = some (.ref C)) (hs : X.mg "super" = none) (hdb : (x == ("__debug__" : Str)) = false) (ha : PA X (e :: es) ta) (n : notStar e = true) (n2 : es.all notStar = true) :
    PMk X (.Call (.Name x p) (e :: es) [] pos) (tMkX C fs ta) := by
  intro pins s σ H Q I h
  refine wpAny_Call_Name_kw (ld_glob I hg hm ?_ hdb)
  refine PySem.W.callWith_K (h₀ := X.base) I.ok.mod.kin T.oex.kC (thn (ha.run pos pins s σ H _ I h) fun us s1 hh => ?_) (star_cons n) (star_any n2)
  obtain ⟨vs, H1, I1, r1, hl, q1⟩ := hh
  refine ⟨I1.kIn, ?_⟩
  show wpAny _ _ (call (.ref C) us) _ _ _
  have hlim := I1.nolimit
  have hG := I1.mod.glob.keeps I1.bk
  obtain ⟨mb, hb1, hb2⟩ := I1.mod.blt
  have hB := hb1.keeps I1.bk
  have hmb : mb "super" = some (.type "super") := (hb2 "super" (by decide)).trans (by decide +kernel)
  have hlu : us.length = fs.length := by rw [← r1.length]; exact hl
  obtain ⟨hp, g, dr, tk, os⟩ := s1
  refine wpAny_call (own_made hpos T U r hz I1.kIn hlim (by have := hr.dp; omega) hG hs hB hmb hlu fun h' tk' e dO M => ?_)
  show MkP X pins σ Q (.ref e) ⟨h', g, dr, tk', os⟩
  obtain ⟨t1, hoe⟩ := M.obj
  have dd := M.dict
  cases dO with
  | none =>
    exfalso
    have dd : fvs [] fs us = [] := dd
    cases fs with
    | nil => exact hne rfl
    | cons f fs =>
      cases us with
      | nil => simp at hlu
      | cons u us => exact fvs_ne (fs := fs) (us := us) (List.cons_ne_nil _ _) dd
  | some d =>
    obtain ⟨d1, d2, hns⟩ := dd
    obtain ⟨G', g1, g2⟩ := restrict h' fun b => decide (b ≠ e)
    have gk : ∀ b, b ≠ e → G'.get? b = h'.get? b := fun b hb => g1 b (decide_eq_true hb)
    have ge : G'.get? e = none := g2 e (by simp)
    have old : ∀ b o, hp.get? b = some o → G'.get? b = some o := fun b o q => (gk b (Nat.ne_of_lt (Nat.lt_of_lt_of_le (Heap.lt_size q) M.new))).trans (M.keep b o q)
    have ob : ObjOk X.prog X.w (upd H1 d (.xd (fvv [] fs vs))) G' d (.xd (fvv [] fs vs)) :=
      ⟨_, hns.at (fun o q => (gk d d2).trans q), fvv_rel r1 fun _ => True.intro⟩
    have J : Inv X pins σ (upd H1 d (.xd (fvv [] fs vs))) ⟨G', g, dr, tk', os⟩ := I1.laid (t' := tk') old d1 ob
    refine ⟨e, _, _, ⟨G', g, dr, tk', os⟩, _, .ref C, some d, rfl, J, fun b o q => ?_, ge, hoe, ⟨rfl, rfl⟩, rfl, rfl, ?_, rfl, I1.bare, raises_own T.oex.exC T.oex.tyC, q1 d (I1.hok.fresh d1)⟩
    · by_cases hb : b = e
      · have q' : G'.get? b = some o := q
        rw [hb, ge] at q'; cases q'
      · exact (gk b hb).symm.trans q
    · rw [upd_ne (Ne.symm d2)]
      exact I1.hok.fresh M.new
end
end PLX
namespace PL
open PySem PySem.Spec PyProof.Rows L2 PLX
/-- raise C(e, ..) -/
def sRaise (cls : Str) (fs : List Str) (a : pA) (xc : XC) : pS := fun _ e => a e fun ds e1 => ds.length = fs.length ∧ xc ⟨cls, fvd [] fs ds⟩ e1
section
variable {X : Cx} {C : Cfg} {cl : Addr} {es : List Expr} {eX : Expr} {pos : Pos} {pa : pA} {xc : XC} {cls : Str} {fs : List Str}
theorem ms_raise (hc : X.calm = true) (tk : Takes X (canX C xc)) (hm : C.mg cls = some (.ref cl)) (h : ∀ ta, PA X es ta → PMk X eX (tMkX cl fs ta)) (ha : PA X es (canK C pa)) : PS X (.Raise (some eX) none pos) (canS C (sRaise cls fs pa xc)) :=
  S.up (ps_raise hc tk (h _ ha)) fun Dn σ H ts vs e Q R h k => ⟨ts, vs, e, _, R, h, fun S ds e1 ws H1 R1 rs ⟨hl, hx⟩ => ⟨by rw [← rs.length]; exact hl, fun d hd => by
    have R2 : RepAt C (upd S d (.xd (fvv [] fs ws))) ts vs e1 σ (upd H1 d (.xd (fvv [] fs ws))) := R1.alloc hd
    refine ⟨ts, vs, e1, _, _, R2, ⟨cl, d, _, hm, rfl, rfl, upd_same, ?_⟩, hx⟩
    exact fvd_rep (rs.mono (Le.upd (R1.freeS hd))) .nil⟩⟩

/-! ### try .. except -/
/-- exceptions are let go -/
def noX : Option Sv → Option Sv
  | some (.exn _) => none
  | o => o
def noExn (e : PEnv) : PEnv := e.map noX
theorem noExn_len (e : PEnv) : (noExn e).length = e.length := by simp [noExn]
theorem noExn_get {e : PEnv} {i : Nat} {sv : Sv} (h : (noExn e)[i]? = some (some sv)) : e[i]? = some (some sv) ∧ ∀ x, sv ≠ .exn x := by
  unfold noExn at h
  rw [List.getElem?_map] at h
  cases q : e[i]? with
  | none => rw [q] at h; cases h
  | some o =>
    rw [q] at h
    cases o with
    | none => cases h
    | some sv' =>
      cases sv' with
      | exn x => cases h
      | val d => cases h; exact ⟨rfl, fun x z => by cases z⟩
      | own d => cases h; exact ⟨rfl, fun x z => by cases z⟩
      | bor d => cases h; exact ⟨rfl, fun x z => by cases z⟩
theorem noExn_own (a : Addr) : ∀ (e : PEnv) (σ : L2.St), ownS a (noExn e) σ ≤ ownS a e σ
  | [], σ => by simp [noExn, ownS]
  | o :: e, [] => by simp [noExn, ownS]
  | o :: e, y :: σ => by
    have := noExn_own a e σ
    have h : ownO a (noX o) y ≤ ownO a o y := by
      unfold noX
      split
      · simp [ownO]
      · exact Nat.le_refl _
    show ownO a (noX o) y + ownS a (noExn e) σ ≤ ownO a o y + ownS a e σ
    omega
theorem SvRep.xch {ex ex' : Option (Addr × Value × Option Addr)} {S H : Hp} {sv : Sv} {v : V} (h : SvRep { C with ex := ex } S H sv v) (n : ∀ x, sv ≠ .exn x) : SvRep { C with ex := ex' } S H sv v := by
  cases sv with
  | val d => exact h
  | own m => obtain ⟨a, h0, h1, h2, h3⟩ := h; exact ⟨a, h0, h1, h2, h3.cfg rfl rfl⟩
  | bor m => obtain ⟨a, h0, h1, h2, h3⟩ := h; exact ⟨a, h0, h1, h2, h3.cfg rfl rfl⟩
  | exn x => exact absurd rfl (n x)
/-- out of an except suite -/
theorem RepAt.leave {ex ex' : Option (Addr × Value × Option Addr)} {S H : Hp} {ts : List Sv} {vs : List V} {e : PEnv} {σ : L2.St} (R : RepAt { C with ex := ex } S ts vs e σ H) (ht : ∀ t ∈ ts, ∀ x, t ≠ .exn x) : RepAt { C with ex := ex' } S ts vs (noExn e) σ H where
  sub := R.sub
  ext := R.ext
  new := R.new
  fr := R.fr
  rf := R.rf
  tmp := Paired.mapI R.tmp fun x y hx h => SvRep.xch h (ht x hx)
  len := by rw [noExn_len]; exact R.len
  slot := fun i sv h => by
    obtain ⟨h1, h2⟩ := noExn_get h
    obtain ⟨v, h3, h4⟩ := R.slot i sv h1
    exact ⟨v, h3, SvRep.xch h4 h2⟩
  dist := fun a => by have := R.dist a; have := noExn_own a e σ; show _ + _ ≤ 1; omega
/-- into one: no exception is held -/
theorem RepAt.enter {ex' : Option (Addr × Value × Option Addr)} {S H : Hp} {ts : List Sv} {vs : List V} {e : PEnv} {σ : L2.St} (he : C.ex = none) (R : RepAt C S ts vs e σ H) : RepAt { C with ex := ex' } S ts vs e σ H where
  sub := R.sub
  ext := R.ext
  new := R.new
  fr := R.fr
  rf := R.rf
  tmp := Paired.mapI R.tmp fun x y hx h => SvRep.xch (C := C) (ex := C.ex) h fun z q => by
    subst q
    obtain ⟨a, cl, dd, gs, h0, _⟩ := h
    rw [he] at h0; cases h0
  len := R.len
  slot := fun i sv h => by
    obtain ⟨v, h3, h4⟩ := R.slot i sv h
    exact ⟨v, h3, SvRep.xch (C := C) (ex := C.ex) h4 fun z q => by
      subst q
      obtain ⟨a, cl, dd, gs, h0, _⟩ := h4
      rw [he] at h0; cases h0⟩
  dist := R.dist

/-- a part that is walked by itself: what the slots do not hold stays -/
def Cfg.inn (C : Cfg) (S H : Hp) (e : PEnv) (σ : L2.St) : Cfg where
  K := C.K
  mg := C.mg
  S0 := S
  H0 := fun a => if ownS a e σ = 1 then C.H0 a else H a
  R := match C.R with
    | some a => if ownS a e σ = 1 then some a else none
    | none => none
  ex := C.ex
theorem inn_R {S H : Hp} {e : PEnv} {σ : L2.St} {a : Addr} (h : (C.inn S H e σ).R = some a) : C.R = some a ∧ ownS a e σ = 1 := by
  unfold Cfg.inn at h
  dsimp only at h
  cases q : C.R with
  | none => rw [q] at h; cases h
  | some b =>
    rw [q] at h
    dsimp only at h
    split at h
    · cases h; rename_i z; exact ⟨rfl, z⟩
    · cases h
theorem inn_H0 {S H : Hp} {e : PEnv} {σ : L2.St} {a : Addr} : (C.inn S H e σ).H0 a = if ownS a e σ = 1 then C.H0 a else H a := rfl
theorem SvRep.inn {S H : Hp} {e : PEnv} {σ : L2.St} {sv : Sv} {v : V} (h : SvRep C S H sv v) (k : ∀ a, own1 a sv v = 1 → ownS a e σ = 1) : SvRep (C.inn S H e σ) S H sv v := by
  cases sv with
  | val d => exact h
  | own m =>
    obtain ⟨a, rfl, h1, h2, h3⟩ := h
    exact ⟨a, rfl, by rw [inn_H0, if_pos (k a (by simp [own1]))]; exact h1, h2, h3.cfg rfl rfl⟩
  | bor m =>
    obtain ⟨a, rfl, h1, h2, h3⟩ := h
    refine ⟨a, rfl, ?_, h2, h3.cfg rfl rfl⟩
    unfold Cfg.inn
    dsimp only
    rw [h1]
    exact if_pos (k a (by simp [own1]))
  | exn x => exact h
theorem RepAt.inner {S H : Hp} {ts : List Sv} {vs : List V} {e : PEnv} {σ : L2.St} (R : RepAt C S ts vs e σ H) : RepAt (C.inn S H e σ) S [] [] e σ H where
  sub := R.sub
  ext := Le.refl S
  new := fun a o q => .inl ⟨o, q⟩
  fr := fun a o q n => by
    rw [inn_H0] at q
    split at q
    · rename_i z
      rcases (R.held (a := a) (by have := R.dist a; omega)).2.2 with w | w
      · rw [q] at w; cases w
      · refine absurd ?_ n
        unfold Cfg.inn
        dsimp only
        rw [w]
        exact if_pos z
    · exact q
  rf := fun a q => R.rf a (inn_R q).1
  tmp := .nil
  len := R.len
  slot := fun i sv h => by
    obtain ⟨v, h1, h2⟩ := R.slot i sv h
    refine ⟨v, h1, SvRep.inn h2 fun a q => ?_⟩
    have l := ownS_ge (a := a) h h1
    have := R.dist a
    omega
  dist := fun a => by have := R.dist a; show ownT a [] [] + _ ≤ 1; show 0 + _ ≤ 1; omega
theorem SvRep.out1 {S S' H H' : Hp} {ts : List Sv} {vs : List V} {e : PEnv} {σ : L2.St} {sv : Sv} {v : V} (R : RepAt C S ts vs e σ H) (h : SvRep (C.inn S H e σ) S' H' sv v) : SvRep C S' H' sv v := by
  cases sv with
  | val d => exact h
  | own m =>
    obtain ⟨a, rfl, h1, h2, h3⟩ := h
    rw [inn_H0] at h1
    split at h1
    · exact ⟨a, rfl, h1, h2, h3.cfg rfl rfl⟩
    · exact ⟨a, rfl, R.free0 h1, h2, h3.cfg rfl rfl⟩
  | bor m =>
    obtain ⟨a, rfl, h1, h2, h3⟩ := h
    exact ⟨a, rfl, (inn_R h1).1, h2, h3.cfg rfl rfl⟩
  | exn x => exact h

theorem RepAt.outer {S S' H H' : Hp} {ts tt : List Sv} {vs tv : List V} {e e' : PEnv} {σ σ' : L2.St} (R : RepAt C S ts vs e σ H) (R' : RepAt (C.inn S H e σ) S' tt tv e' σ' H') (hl : tt.length = tv.length) : RepAt C S' (tt ++ ts) (tv ++ vs) e' σ' H' := by
  have keep : ∀ a, ownT a ts vs = 1 → H' a = H a ∧ S' a = none := fun a q => by
    have d := R.dist a
    have n : ¬ ownS a e σ = 1 := by omega
    obtain ⟨⟨o, ho⟩, hs, _⟩ := R.held (a := a) (by omega)
    have h0 : (C.inn S H e σ).H0 a = some o := by rw [inn_H0, if_neg n]; exact ho
    refine ⟨(R'.fr a o h0 fun w => n (inn_R w).2).trans ho.symm, ?_⟩
    cases x : S' a with
    | none => rfl
    | some u =>
      rcases R'.new a u x with ⟨o', z⟩ | z
      · have z : S a = some o' := z; rw [hs] at z; cases z
      · rw [h0] at z; cases z
  refine { sub := R'.sub, ext := fun a o q => R'.ext a o (R.ext a o q), new := fun a o q => ?_, fr := fun a o q n => ?_, rf := fun a q => ?_, tmp := ?_, len := R'.len, slot := fun i sv h => ?_, dist := fun a => ?_ }
  · rcases R'.new a o q with ⟨o', z⟩ | z
    · exact R.new a o' z
    · rw [inn_H0] at z
      split at z
      · exact .inr z
      · exact .inr (R.free0 z)
  · have ho := R.fr a o q n
    have ns : ¬ ownS a e σ = 1 := fun z => by
      rcases (R.held (a := a) (by have := R.dist a; omega)).2.2 with w | w
      · rw [q] at w; cases w
      · exact n w
    exact R'.fr a o (by rw [inn_H0, if_neg ns]; exact ho) fun w => ns (inn_R w).2
  · by_cases z : ownS a e σ = 1
    · refine R'.rf a ?_
      unfold Cfg.inn
      dsimp only
      rw [q]
      exact if_pos z
    · obtain ⟨o, ho⟩ := R.rf a q
      exact ⟨o, R'.fr a o (by rw [inn_H0, if_neg z]; exact ho) fun w => z (inn_R w).2⟩
  · refine paired_app (Paired.mapI R'.tmp fun x y _ h => SvRep.out1 R h) ?_
    have le : Le S S' := R'.ext
    exact tmp_mono R.tmp le fun a q => keep a (by have := R.dist a; omega)
  · obtain ⟨v, h1, h2⟩ := R'.slot i sv h
    exact ⟨v, h1, SvRep.out1 R h2⟩
  · rw [ownT_app a hl ts vs]
    have d := R'.dist a
    have d0 := R.dist a
    by_cases q : ownT a ts vs = 1
    · have n : ¬ ownS a e σ = 1 := by omega
      have z : ¬ ownT a tt tv + ownS a e' σ' = 1 := fun z => by
        obtain ⟨⟨o, ho⟩, _, w⟩ := R'.held z
        obtain ⟨⟨o2, ho2⟩, _, _⟩ := R.held (a := a) (by omega)
        rcases w with w | w
        · rw [inn_H0, if_neg n, ho2] at w; cases w
        · exact n (inn_R w).2
      omega
    · omega
end
end PL
set_option Elab.async false
set_option linter.all false
set_option maxRecDepth 100000
set_option maxHeartbeats 4000000
/-! PL10: try .. except over plain data; the caught error's class and fields. -/
namespace PLX
open PySem PySem.Spec PySem.Calls PyProof.Rows
open PySem.W
section
variable {prog : Program} {w : World} {A : Around} {E : Value → Shared → Prop} {s : Shared} {K : Frag} {x D : Addr} {ox : Obj} {odx : Option Obj}
theorem findObj_dataX {C : Addr} {name : Str} {a g : Value} (hc : (clsIn K C).isSome = true) (ha : findIn K (.ref C) name = some (some a)) (hg : specialIn K a "__get__" = some (some g)) (ht : takesIn K a = some true) : findObj K C odx name = some (.bind g a) := by
  obtain ⟨cd, hc⟩ := Option.isSome_iff_exists.mp hc
  unfold findObj
  rw [hc, Option.bind_some, ha, Option.bind_some]
  simp [hg, ht]
theorem kin_classX {Q : Option Value → Shared → Prop} (T : L2.ExcC K D) (X : K.In s.heap) (I : InstAt s.heap x ox D odx) (h : Q (some (.ref D)) { s with toks := s.toks + 1 }) : wpAny (model prog w) A (getAttr? (.ref x) "__class__") Q E s := by
  have hga := T.hg
  have hgt := T.hk
  have hsub := T.hs
  have hf : findObj K D odx "__class__" = some (.bind (.builtin "getset_descriptor.__get__") (.builtin "object.__class__")) := findObj_dataX (by obtain ⟨cd, hc, _⟩ := any_some T.hd; rw [hc]; rfl) T.ha T.hn T.ht
  obtain ⟨hp, g, d, t, os⟩ := s
  have L0 := I.type (M := model prog w)
  have L1 := looks_findIn (M := model prog w) X hga
  have L2 := looks_findIn (M := model prog w) X hgt
  have L3 := looks_find (M := model prog w) X I hf
  have sub : Looks (model prog w) hp (isInstance (.ref x) (.type "BaseException")) true := L0.andThen (looks_subIn X hsub)
  have hx0 : (false && onTheHeap (Value.builtin "BaseException.__getattribute__")) = false := rfl
  have hx2 : (Value.builtin "BaseException.__getattribute__" == Value.builtin "object.__getattribute__") = false := by decide +kernel
  have hx1 : (onTheHeap (Value.ref D) && Value.builtin "BaseException.__getattribute__" == Value.builtin "object.__getattribute__") = false := by rw [hx2]; rfl
  unfold getAttr? getAttrBy? getAttrBy
  refine wpAny_bind (wpAny_mkText (wpAny_bind (wpAny_attempt (wpAny_holding (wpAny_bind (L0.at (wpAny_bind (L1.at ?_))))))))
  show wpAny _ _ (if (onTheHeap (Value.ref D) && Value.builtin "BaseException.__getattribute__" == Value.builtin "object.__getattribute__") = true then _ else _) _ _ _
  rw [hx1, if_neg Bool.false_ne_true]
  unfold getAttrByItsOwn hookBefore
  refine wpAny_bind ?_
  rw [if_pos (show onTheHeap (Value.ref D) = true from rfl)]
  refine L2.at ?_
  refine wpAny_bind (wpAny_attempt (wpAny_holding ?_))
  unfold callGetattribute
  rw [hx0, if_neg Bool.false_ne_true]
  unfold boundAndCalled
  rw [PySem.F.excAttr_ValueError.ga.bind (.ref x)]
  refine wpAny_bind (wpAny_pure ?_)
  show wpAny _ _ (call (.builtin "BaseException.__getattribute__") [.ref x, .str "__class__" t]) _ _ _
  refine wpAny_call (codeAny_call_builtin PySem.F.excAttr_ValueError.ga.plain PySem.F.entry_bexc_ga ?_)
  refine @check_slot (model prog w) _ _ ⟨hp, g, d, t + 1, os⟩ "BaseException.__getattribute__" "BaseException" "__getattribute__" (.ref x) [.str "__class__" t] [] _ (by decide +kernel) (by decide +kernel) sub (PySem.F.args_bexc_ga (.ref x) (.str "__class__" t)) ?_
  unfold Builtin.«object.__getattribute__»
  refine wpAny_bind (wpAny_of_eq (a := ((Value.ref x : Value), [Value.str "__class__" t])) (by first | rfl | (simp only [slotArgs]; rfl)) ?_)
  refine wpAny_bind (wpAny_pure (wpAny_bind (L0.at (wpAny_bind (L3.at ?_)))))
  show wpAny _ _ (holding [Value.builtin "object.__class__"] (call (.builtin "getset_descriptor.__get__") [.builtin "object.__class__", .ref x, .ref D]) >>= ret) _ _ _
  refine wpAny_bind (wpAny_holding (wpAny_call (class_get (s := ⟨hp, g, d, t + 1, os⟩) (ox := ox) (od := odx) X I T.hm ?_)))
  refine wpAny_pure ?_
  show wpAny _ _ (handedOut (.ref D)) _ _ _
  rw [handedOut_of (v := .ref D) rfl]
  first
    | exact wpAny_pure (wpAny_pure h)
    | exact wpAny_pure h
    | exact wpAny_pure (wpAny_bind (wpAny_pure (wpAny_pure h)))
theorem kitx_exc (T : L2.ExcC K D) : KitX K (.ref x) (.ref D) (fun h => ∃ od, InstAt h x ox D od) where
  ty := fun _ _ _ ⟨od, I⟩ => I.type
  it := fun _ _ X _ => by
    obtain ⟨cdD, hcD, _⟩ := any_some T.hd
    unfold clsIn at hcD
    split at hcD
    · rename_i c' d' cd' sl' ho
      intro A' Q' E' s' k q
      unfold isType loadHead
      exact wpAny_bind (wpAny_loadPart (k _ _ (X _ _ ho)) (wpAny_pure q))
    · cases hcD
  ne := fun h tp dd its n sl X htp => by
    obtain ⟨cdD, hcD, _⟩ := any_some T.hd
    refine Bool.eq_false_iff.mpr fun q => ?_
    have e : D = tp := Value.ref.inj (beq_iff_eq.mp q)
    subst e
    unfold clsIn at hcD
    split at hcD
    · rename_i c' d' cd' sl' ho
      have z := (X _ _ ho).symm.trans htp
      cases z
    · cases hcD
  ca := fun X ⟨od, I⟩ k => kin_classX T X I k
end
end PLX
namespace PL
open PySem PySem.Spec PyProof.Rows L2 PLX
/-- isinstance(e, c), e the exception that the suite holds -/
def rIsX (K : PySem.W.Frag) (D a dd : Addr) : List V → Hp → VK → Prop := fun xs H Q => ∃ (c : V) (cv : Value) (b : Bool) (gs : List (Str × V)), xs = [.ref a, c] ∧ (∀ u, RelV c u → u = cv) ∧ PySem.W.kitOne K (.ref D) cv = some b ∧ H dd = some (.xd gs) ∧ Q (.bl b) H
theorem call_isX {X : Cx} {a D dd : Addr} {oe : Obj} {pn : List (Addr × Obj)} (C : ExcC X.K D) (hz : Zc (.ref D) (some dd) oe) (hf : ∃ vs, oe.data = .fields vs) : CallR (X.suite a ((a, oe) :: pn)) (.builtin "isinstance") (rIsX X.K D a dd) := by
  intro pins s σ H xs us Q I r h
  obtain ⟨c, cv, b, gs, rfl, hcv, e, hg, q⟩ := h
  cases r with
  | cons rx rr =>
    cases rr with
    | cons rt rr =>
      cases rr
      cases rx
      have ec := hcv _ rt
      subst ec
      obtain ⟨hget, _⟩ := I.pin (a, oe) (List.mem_append.mpr (.inl List.mem_cons_self))
      obtain ⟨vs, hv⟩ := hf
      have hx : ObjOk X.prog X.w H s.heap dd (.xd gs) := I.hok dd _ hg
      obtain ⟨mA, hns, hr⟩ := hx
      obtain ⟨od, _, _, ho, _⟩ := id hns
      have J : PySem.W.InstAt s.heap a oe D (some od) := ⟨hget, hz.1, by unfold PySem.W.notCls; rw [hv] <;> rfl, by rw [hz.2]; exact ho⟩
      exact PySem.W.kia_one (kitx_exc C) I.kIn ⟨_, J⟩ e (fun z => nomatch z) fun tk => ⟨.bl b, H, I.kept (t' := tk) fun _ _ z => z, rfl, q⟩

/-- isinstance(e, N), e the name of the caught error -/
def pIsX (i : Nat) (f : Str → Option Bool) : pE := fun e P => ∃ x b, e[i]? = some (some (.exn x)) ∧ f x.cls = some b ∧ P (.val (.bl b)) e
/-- e.f -/
def pXf (i : Nat) (f : Str) : pE := fun e P => ∃ x, e[i]? = some (some (.exn x)) ∧ getF x.fs f fun z => P z e
/-- the ends of an except suite -/
def lvEnds (Q : pEnds) (i : Nat) : pEnds where
  nx := fun e => Q.nx ((noExn e).set i none)
  rt := fun sv e => isOut sv ∧ Q.rt sv ((noExn e).set i none)
  bk := fun e => Q.bk ((noExn e).set i none)
  ct := fun e => Q.ct ((noExn e).set i none)
/-- try: body / except c as n: suite -/
def sTryAs (i : Nat) (f : Str → Option Bool) (body : XC → pS) (suite : pS) (xc : XC) : pS := fun Q e => body (fun x e1 => ∃ b, f x.cls = some b ∧ (b = true → suite (lvEnds Q i) (e1.set i (some (.exn x)))) ∧ (b = false → xc x e1)) Q e
/-- .. except c: suite -/
def lvEnds0 (Q : pEnds) : pEnds where
  nx := fun e => Q.nx (noExn e)
  rt := fun sv e => isOut sv ∧ Q.rt sv (noExn e)
  bk := fun e => Q.bk (noExn e)
  ct := fun e => Q.ct (noExn e)
def sTryOnly (f : Str → Option Bool) (body : XC → pS) (suite : pS) (xc : XC) : pS := fun Q e => body (fun x e1 => ∃ b, f x.cls = some b ∧ (b = true → suite (lvEnds0 Q) e1) ∧ (b = false → xc x e1)) Q e
section
variable {X : Cx} {C : Cfg} {pos : Pos} {xc : XC} {e : Expr} {i : Nat}
theorem me_isX {a D dd : Addr} {oe : Obj} {pn : List (Addr × Obj)} {x2 eX : Expr} {f : Str → Option Bool} {cN : Addr} (T : ExcC X.K D) (hz : Zc (.ref D) (some dd) oe) (hf : ∃ vs, oe.data = .fields vs) (hC : C.ex = some (a, .ref D, some dd)) (hmg : X.mg = C.mg)
    (ft : ∀ x b, f x = some b → C.mg x = some (.ref D) → PySem.W.kitOne X.K (.ref D) (.ref cN) = some b)
    (h : ∀ ta, CallR (X.suite a ((a, oe) :: pn)) (.builtin "isinstance") (rIsX X.K D a dd) → PA (X.suite a ((a, oe) :: pn)) [e, x2] ta → PE (X.suite a ((a, oe) :: pn)) eX (tCB (rIsX X.K D a dd) ta)) (n : notStar e = true) (n2 : notStar x2 = true)
    (he : PE (X.suite a ((a, oe) :: pn)) e (tVar i)) (h2 : PE (X.suite a ((a, oe) :: pn)) x2 (tC (.ref cN))) : PE (X.suite a ((a, oe) :: pn)) eX (canE C (pIsX i f)) :=
  (h _ (call_isX T hz hf) (pa_cons he (pa_cons h2 pa_nil (star_cons n2)) (star_cons n))).up fun σ H Q ⟨ts, vs, e1, P, ⟨S, R⟩, ⟨x, b, hx, hb, hP⟩, k⟩ => by
    obtain ⟨v, h1, h2⟩ := R.slot i _ hx
    obtain ⟨a', cl, d', gs, h3, rfl, h5, h6, h7⟩ := h2
    rw [hC] at h3
    cases h3
    exact ⟨_, h1, .ref cN, .ref cN, b, gs, rfl, fun u r => r, ft _ _ hb h5, R.sub _ _ h6, k _ e1 _ H ⟨S, R.pushV (.bl b)⟩ hP⟩
theorem me_xf {a D dd : Addr} {oe : Obj} {pn : List (Addr × Obj)} {f : Str} (T : XfC X.K D) (hno : PySem.W.findIn X.K (.ref D) f = some none) (hz : Zc (.ref D) (some dd) oe) (hf : ∃ vs, oe.data = .fields vs) (hC : C.ex = some (a, .ref D, some dd))
    (he : PE (X.suite a ((a, oe) :: pn)) e (tVar i)) (hb : attributeBase e f (X.suite a ((a, oe) :: pn)).env (eval e (X.suite a ((a, oe) :: pn)).env) = eval e (X.suite a ((a, oe) :: pn)).env) : PE (X.suite a ((a, oe) :: pn)) (.Attribute e f pos) (canE C (pXf i f)) :=
  (pe_xf (n := f) T hno hz hf he hb).up fun σ H Q ⟨ts, vs, e1, P, ⟨S, R⟩, ⟨x, hx, d, hd, hP⟩, k⟩ => by
    obtain ⟨v, h1, h2⟩ := R.slot i _ hx
    obtain ⟨a', cl, d', gs, h3, rfl, h5, h6, h7⟩ := h2
    rw [hC] at h3
    cases h3
    obtain ⟨u, h8, h9⟩ := h7.lookup hd
    exact ⟨_, h1, rfl, rfl, dd, gs, u, rfl, R.sub _ _ h6, h8, k _ e1 u H ⟨S, R.pushV h9⟩ hP⟩

/-- what the body of a try is read as -/
def tTryB (C : Cfg) (p : XC → pS) (W : WX) : TS := fun Dn σ H => ∃ (C' : Cfg) (xc : XC), (C'.K = C.K ∧ C'.mg = C.mg ∧ C'.ex = C.ex) ∧ (∀ cls d σ H, canX C' xc cls d σ H → W cls d σ H) ∧ canS C' (p xc) Dn σ H
theorem try_body {st : List Stmt} {p : XC → pS} {W : WX} (tk : Takes X W) (h : ∀ (C' : Cfg) (xc : XC), C'.K = C.K → C'.mg = C.mg → C'.ex = C.ex → Takes X (canX C' xc) → PSs X st (canS C' (p xc))) : PSs X st (tTryB C p W) :=
  ⟨fun pins s σ H Dn I ⟨C', xc, hc, hW, w⟩ => (h C' xc hc.1 hc.2.1 hc.2.2 (tk.imp hW)).run pins s σ H Dn I w⟩
/-- what its suite is read as -/
def tTryS (C : Cfg) (f : Str → Option Bool) (p : pS) (a : Addr) (cls : Value) (d : Option Addr) : TS := fun Dn σ H => ∃ (C' : Cfg) (x : Exn) (cl dd : Addr), (C'.K = C.K ∧ C'.mg = C.mg ∧ C'.ex = some (a, cls, d)) ∧ (cls = .ref cl ∧ d = some dd ∧ C.mg x.cls = some (.ref cl) ∧ ∃ b, f x.cls = some b) ∧ canS C' p Dn σ H
theorem try_suite {f : Str → Option Bool} {a : Addr} {oe : Obj} {cls : Value} {d : Option Addr} {pn : List (Addr × Obj)} {st : List Stmt} {p : pS} (hz : Zc cls d oe) (hf : ∃ vs, oe.data = .fields vs)
    (h : ∀ (C' : Cfg) (x : Str) (cl dd : Addr), C'.K = C.K → C'.mg = C.mg → C'.ex = some (a, .ref cl, some dd) → C.mg x = some (.ref cl) → (∃ b, f x = some b) → Zc (.ref cl) (some dd) oe → PSs (X.suite a ((a, oe) :: pn)) st (canS C' p)) : PSs (X.suite a ((a, oe) :: pn)) st (tTryS C f p a cls d) :=
  ⟨fun pins s σ H Dn I ⟨C', x, cl, dd, hc, hx, w⟩ => by
    obtain ⟨e1, e2, e3, e4⟩ := hx
    subst e1; subst e2
    exact (h C' x.cls cl dd hc.1 hc.2.1 hc.2.2 e3 e4 hz).run pins s σ H Dn I w⟩
theorem ms_tryAs {st : Stmt} {c : Addr} {p : XC → pS} {ps : pS} {f : Str → Option Bool} (hK : X.K = C.K) (hex : C.ex = none) (ft : ∀ x b cl, f x = some b → C.mg x = some (.ref cl) → PySem.W.exmOne X.K (.ref cl) (.ref c) = some b)
    (h : PS X st (fun D σ H => tTryB C p (wAs X.K (.ref c) i (tTryS C f ps) (canX C xc) D) D σ H)) : PS X st (canS C (sTryAs i f p ps xc)) :=
  S.up h fun Dn σ H ts vs e Q ⟨S, R⟩ h k => by
    refine ⟨C.inn S H e σ, _, ⟨rfl, rfl, rfl⟩, fun cls d σ' H' hx => ?_, useS ⟨S, R.inner⟩ h ⟨fun e' σ' H' ⟨S', R'⟩ h' => k.nx e' σ' H' ⟨S', R.outer R' (tt := []) (tv := []) rfl⟩ h', fun sv e' v σ' H' ⟨S', R'⟩ h' => k.rt sv e' v σ' H' ⟨S', R.outer R' (tt := [sv]) (tv := [v]) rfl⟩ h',
      fun e' σ' H' ⟨S', R'⟩ h' => k.bk e' σ' H' ⟨S', R.outer R' (tt := []) (tv := []) rfl⟩ h', fun e' σ' H' ⟨S', R'⟩ h' => k.ct e' σ' H' ⟨S', R.outer R' (tt := []) (tv := []) rfl⟩ h'⟩⟩
    obtain ⟨ts', vs', e', x, S', R', hat, b, hb, hyes, hno⟩ := hx
    obtain ⟨cl, dd, gs, m1, rfl, rfl, m4, m5⟩ := hat
    refine ⟨b, ft _ _ _ hb m1, fun e1 a ha => ?_, fun e1 => ⟨ts, vs, e', x, S', R.outer R'.noT (tt := []) (tv := []) rfl, ⟨cl, dd, gs, m1, rfl, rfl, m4, m5⟩, hno e1⟩⟩
    have R1 : RepAt { C.inn S H e σ with ex := some (a, .ref cl, some dd) } S' [] [] e' σ' H' := R'.noT.enter hex
    have R2 : RepAt { C.inn S H e σ with ex := some (a, .ref cl, some dd) } S' [.exn x] [.ref a] e' σ' H' := R1.push ⟨a, cl, dd, gs, rfl, rfl, m1, m4, m5⟩ fun b => by
      rw [own1_exn]
      have := R1.dist b
      omega
    have R3 := R2.store (i := i)
    have back : ∀ {tt : List Sv} {tv : List V} {e2 : PEnv} {σ2 : L2.St} {H2 S2 : Hp} {o : Option V}, RepAt { C.inn S H e σ with ex := some (a, .ref cl, some dd) } S2 tt tv e2 σ2 H2 → (∀ t ∈ tt, ∀ x, t ≠ .exn x) → tt.length = tv.length → RepAt C S2 (tt ++ ts) (tv ++ vs) ((noExn e2).set i none) (σ2.set i o) H2 := fun {tt tv e2 σ2 H2 S2 o} Rz ht hl => by
      have R4 : RepAt (C.inn S H e σ) S2 tt tv (noExn e2) σ2 H2 := RepAt.leave (C := C.inn S H e σ) (ex' := C.ex) Rz ht
      exact (R.outer R4 hl).forget o
    refine ⟨{ C.inn S H e σ with ex := some (a, .ref cl, some dd) }, x, cl, dd, ⟨rfl, rfl, rfl⟩, ⟨rfl, rfl, m1, b, hb⟩, useS ⟨S', R3⟩ (hyes e1) ⟨?_, ?_, ?_, ?_⟩⟩
    · exact fun e2 σ2 H2 ⟨S2, Rz⟩ h2 => k.nx _ _ H2 ⟨S2, back Rz (fun t z => by cases z) rfl⟩ h2
    · intro sv e2 v σ2 H2 ⟨S2, Rz⟩ ⟨ho, h2⟩
      refine k.rt sv _ v σ2 H2 ⟨S2, ?_⟩ h2
      have Rw := back (o := (σ2[i]?).getD none) Rz (fun t z y q => by
        have e : t = sv := by simpa using z
        subst e; subst q
        exact ho.elim) rfl
      have es : σ2.set i ((σ2[i]?).getD none) = σ2 := by
        by_cases hi : i < σ2.length
        · have : (σ2[i]?).getD none = σ2[i] := by simp [hi]
          rw [this]
          exact List.set_getElem_self hi
        · exact List.set_eq_of_length_le (by omega)
      rw [es] at Rw
      exact Rw
    · exact fun e2 σ2 H2 ⟨S2, Rz⟩ h2 => k.bk _ _ H2 ⟨S2, back Rz (fun t z => by cases z) rfl⟩ h2
    · exact fun e2 σ2 H2 ⟨S2, Rz⟩ h2 => k.ct _ _ H2 ⟨S2, back Rz (fun t z => by cases z) rfl⟩ h2
end
end PL
set_option Elab.async false
set_option linter.all false
set_option maxRecDepth 100000
set_option maxHeartbeats 4000000
/-! PL11: the readings of the language's words, by the syntax; they are sound. -/
namespace PL
open PySem PySem.Spec PyProof.Rows L2 PLX

/-- what a global name is: a def of the program; a constant -/
inductive GE where
  | fn (np nloc : Nat) (ref : Bool) (p : XC → pS)
  | con (d : D)
/-- what is known of a block of text -/
structure SC where
  N : List Str
  sc : Scope
  G : List (Str × GE)
  errs : List (Str × List Str)
  exm : List ((Str × Str) × Bool)
  flds : List Str
  free : List Str
  lev : Nat
  calm : Bool
  own : Option (List Nat)
def xno : XC := fun _ _ => False

/-! ### looks at the text -/
def idxAt (x : Str) : List Str → Nat → Option Nat
  | [], _ => none
  | y :: r, i => if x == y then some i else idxAt x r (i + 1)
def isVis (sc : Scope) (x : Str) : Bool := match sc.names.lookup x with
  | some .local => true
  | some .cell => true
  | some .free => true
  | _ => false
def isLocK (sc : Scope) (x : Str) : Bool := match sc.names.lookup x with
  | some .local => true
  | _ => false
def isLoc (sc : Scope) (x : Str) : Bool := match sc.names.lookup x with
  | some .local => true
  | some .cell => true
  | _ => false
def isGlob (sc : Scope) (x : Str) : Bool := match sc.names.lookup x with
  | some .globalImplicit => true
  | _ => false
def dbg (x : Str) : Bool := !(x == ("__debug__" : Str)) && !(x == ("__classdict__" : Str))
/-- the slot of a name that is read -/
def slotR (S : SC) (x : Str) : Option Nat := match isVis S.sc x && dbg x with
  | true => idxAt x S.N 0
  | false => none
/-- .. that is stored -/
def slotW (S : SC) (x : Str) : Option Nat := match S.own with
  | none => (match isLoc S.sc x with
    | true => idxAt x S.N 0
    | false => none)
  | some own => (match isLocK S.sc x with
    | true => (match idxAt x S.N 0 with
      | some i => (match own.contains i with
        | true => some i
        | false => none)
      | none => none)
    | false => none)
def plainIx : Expr → Bool
  | .Slice _ _ _ _ => false
  | .Tuple _ _ _ => false
  | _ => true
def plainT : Expr → Bool
  | .UnaryOp .Not _ _ => false
  | .BoolOp _ _ _ => false
  | .IfExp _ _ _ _ => false
  | .Compare _ _ _ _ => false
  | _ => true
def noSet : Expr → Bool
  | .Set _ _ _ => false
  | _ => true
def noComp : Expr → Bool
  | .ListComp _ _ _ _ => false
  | .SetComp _ _ _ _ => false
  | .DictComp _ _ _ _ _ => false
  | _ => true
def isNm : Expr → Option Str
  | .Name x _ => some x
  | _ => none
def isNone : Expr → Bool
  | .Constant .none _ _ => true
  | _ => false
def bltTab : List (Str × Blt) := [("len", .len), ("abs", .abs), ("int", .int_), ("bool", .bool_), ("str", .str_), ("min", .min_), ("max", .max_), ("sum", .sum_), ("all", .all_), ("any", .any_), ("list", .list_), ("tuple", .tuple_)]
def bltOf (f : Str) : Option Blt := bltTab.lookup f
def tyTab : List (Str × String) := [("int", "int"), ("bool", "bool"), ("str", "str"), ("list", "list"), ("tuple", "tuple")]
def tyOf (f : Str) : Option String := tyTab.lookup f

structure Sem where
  E : SC → XC → Expr → pE
  V : SC → XC → Expr → pV
  T : SC → XC → Expr → pT
  I : SC → XC → Expr → Expr → pI
  G : SC → XC → Expr → pG
  S : SC → XC → Stmt → pS

def bV : pV := fun _ _ => False
def bT : pT := fun _ _ => False
def bI : pI := fun _ _ => False
def bG : pG := fun _ _ _ => False
def bS : pS := fun _ _ => False
def bA : pA := fun _ _ => False

section
variable (r : Sem) (S : SC) (xc : XC)
/-- arguments that may be kept -/
def stA : List Expr → pA
  | [] => pNil
  | e :: es => match notStar e with
    | true => pCons (r.E S xc e) (stA es)
    | false => bA
/-- .. the last only looked at -/
def stL : List Expr → pA
  | [] => pNil
  | [e] => (match notStar e with
    | true => pLast (r.V S xc e)
    | false => bA)
  | e :: es => match notStar e with
    | true => pCons (r.E S xc e) (stL es)
    | false => bA
def stB : List Stmt → pS
  | [] => sNext
  | [s] => r.S S xc s
  | s :: ss => sSeq (r.S S xc s) (stB ss)
def stAndV : List Expr → pE
  | [] => pBad
  | [e] => r.E S xc e
  | e :: es => pAndV (r.E S xc e) (stAndV es)
def stOrV : List Expr → pE
  | [] => pBad
  | [e] => r.E S xc e
  | e :: es => pOrV (r.E S xc e) (stOrV es)
def stAndT : List Expr → pT
  | [] => bT
  | [e] => r.T S xc e
  | e :: es => pAndT (r.T S xc e) (stAndT es)
def stOrT : List Expr → pT
  | [] => bT
  | [e] => r.T S xc e
  | e :: es => pOrT (r.T S xc e) (stOrT es)
def stGs : List Expr → pGs
  | [] => gsNil
  | e :: es => match notStar e with
    | true => gsCons (r.G S xc e) (stGs es)
    | false => fun _ _ _ => False
def stO : Option Expr → Option pE
  | none => none
  | some e => some (r.E S xc e)
/-- a comprehension's own names and their slots -/
def ownOf (N : List Str) : List (Str × NameKind) → List (Str × Nat)
  | [] => []
  | (x, k) :: rest => match k with
    | .local => (match idxAt x N 0 with
      | some i => (x, i) :: ownOf N rest
      | none => ownOf N rest)
    | _ => ownOf N rest
def blkS (sc : Scope) (own : List (Str × Nat)) : SC := { S with sc := relS sc S.sc, own := some (own.map (·.2)) }
def stLc (elt tg iter : Expr) (ifs : List Expr) (sc : Scope) : pE := match S.calm && blkC S.N S.sc sc (ownOf S.N sc.names) && noSet iter with
  | false => pBad
  | true => pLc (r.I S xc tg iter) (r.G (blkS S sc (ownOf S.N sc.names)) xno tg) (match ifs with
    | [] => pYes
    | [c] => r.T (blkS S sc (ownOf S.N sc.names)) xno c
    | _ => bT) (r.E (blkS S sc (ownOf S.N sc.names)) xno elt) ((ownOf S.N sc.names).map (·.2))
def stCmp (a : Expr) (op : CmpOp) (b : Expr) : pE := match op with
  | .Is => if isNone b then pIsN false (r.V S xc a) else pBad
  | .IsNot => if isNone b then pIsN true (r.V S xc a) else pBad
  | op => match behindInMarks op b with
    | false => pOp (cmpB op) (r.E S xc a) (r.V S xc b)
    | true => pBad
/-- a call of a name -/
def stCall (f : Str) (es : List Expr) : pE := match isGlob S.sc f && dbg f && es.all notStar with
  | false => pBad
  | true => match S.G.lookup f with
    | some (.fn np nloc ref p) => (match S.calm with
      | false => pBad
      | true => (match ref with
        | false => (match es with
          | [] => pBad
          | es => pCall (semFn nloc np false p) xc (stA r S xc es))
        | true => (match es with
          | .Name x _ :: es => (match slotR S x with
            | some i => pCallR (semFn nloc np true p) xc i (stA r S xc es)
            | none => pBad)
          | _ => pBad)))
    | some (.con _) => pBad
    | none => match S.free.contains f && !(f == ("__name__" : Str)) with
      | false => pBad
      | true => match f == ("isinstance" : Str) with
        | true => (match es with
          | [a, .Name t _] => (match isGlob S.sc t && dbg t && S.free.contains t && !(t == ("__name__" : Str)) with
            | true => (match tyOf t with
              | some T => pIsi T (r.V S xc a)
              | none => pBad)
            | false => (match S.calm with
              | true => pBad
              | false => (match isGlob S.sc t && dbg t with
                | true => (match a with
                  | .Name y _ => (match slotR S y with
                    | some i => pIsX i fun c => S.exm.lookup (c, t)
                    | none => pBad)
                  | _ => pBad)
                | false => pBad)))
          | _ => pBad)
        | false => (match S.calm with
          | false => pBad
          | true => (match bltOf f with
            | some b => (match es with
              | [] => pBad
              | es => pBlt b (stL r S xc es))
            | none => pBad))
def stMeth (o : Expr) (m : Str) (apos pos : Pos) (es : List Expr) : pE := match o with
  | .Name x _ => (match slotR S x with
    | none => pBad
    | some i => (match apos.endLine == pos.line with
      | false => pBad
      | true => (match es with
        | [] => if m == ("pop" : Str) then pPop i else pBad
        | [e] => (match notStar e with
          | false => pBad
          | true => if m == ("append" : Str) then pAppend i (r.E S xc e) else if m == ("pop" : Str) then pPopAt i (r.E S xc e) else pBad)
        | _ => pBad)))
  | _ => pBad
def stE : Expr → pE
  | .Constant c _ _ => (match c with
    | .int i => pC (.int i)
    | .str x => pC (.str x)
    | .bool b => pC (.bl b)
    | .none => pC .non
    | _ => pBad)
  | .Name x _ => (match slotR S x with
    | some i => pVar i
    | none => (match isGlob S.sc x && dbg x with
      | false => pBad
      | true => (match S.G.lookup x with
        | some (.con d) => pC d
        | _ => pBad)))
  | .BinOp a op b _ => pOp (opB op) (r.E S xc a) (r.V S xc b)
  | .UnaryOp op a _ => (match op with
    | .Not => pNotV (r.E S xc a)
    | op => pUn (unB op) (r.E S xc a))
  | .BoolOp op es _ => (match op with
    | .And => stAndV r S xc es
    | .Or => stOrV r S xc es)
  | .IfExp c a b _ => pIf (r.T S xc c) (r.E S xc a) (r.E S xc b)
  | .Compare a ops bs _ => (match ops, bs with
    | [op], [b] => stCmp r S xc a op b
    | [op, op'], [b, c] => (match lastMarks [op, op'] [b, c] with
      | false => pChain (cmpB op) (cmpB op') (r.E S xc a) (r.E S xc b) (r.V S xc c)
      | true => pBad)
    | _, _ => pBad)
  | .Tuple es _ _ => pTup (stA r S xc es)
  | .List es _ => pLst (stA r S xc es)
  | .Subscript o i _ => (match i with
    | .Slice lo hi st _ => (match st with
      | none => (match (isNm o).bind (slotR S) with
        | some k => pSlN k (stO r S xc lo) (stO r S xc hi)
        | none => pSl (r.E S xc o) (stO r S xc lo) (stO r S xc hi))
      | some _ => pBad)
    | i => (match plainIx i with
      | false => pBad
      | true => (match (isNm o).bind (slotR S) with
        | some k => pIxN k (r.V S xc i)
        | none => pOp itemB (r.E S xc o) (r.V S xc i))))
  | .ListComp elt gs sc _ => (match gs with
    | [⟨tg, iter, ifs, 0⟩] => stLc r S xc elt tg iter ifs sc
    | _ => pBad)
  | .Call f es kws pos => (match kws with
    | [] => (match f with
      | .Name f _ => stCall r S xc f es
      | .Attribute o m apos => stMeth r S xc o m apos pos es
      | _ => pBad)
    | _ => pBad)
  | .Attribute o f _ => (match S.calm with
    | true => pBad
    | false => (match (isNm o).bind (slotR S) with
      | some i => (match S.flds.contains f with
        | true => pXf i f
        | false => pBad)
      | none => pBad))
  | _ => pBad
def stV (e : Expr) : pV := match (isNm e).bind (slotR S) with
  | some i => pPk i
  | none => pF (r.E S xc e)
def stT : Expr → pT
  | .UnaryOp op a p => (match op with
    | .Not => pNotT (r.T S xc a)
    | op => pB (r.E S xc (.UnaryOp op a p)))
  | .BoolOp op es _ => (match op with
    | .And => stAndT r S xc es
    | .Or => stOrT r S xc es)
  | .IfExp _ _ _ _ => bT
  | .Compare a ops bs _ => (match ops, bs with
    | [op], [b] => pB (stCmp r S xc a op b)
    | [op, op'], [b, c] => (match lastMarks [op, op'] [b, c] with
      | false => pB (pChain (cmpB op) (cmpB op') (r.E S xc a) (r.E S xc b) (r.V S xc c))
      | true => bT)
    | _, _ => bT)
  | e => pB (r.E S xc e)
def stI (tg : Expr) : Expr → pI
  | .Call (.Name f _) es [] _ => (match S.calm && isGlob S.sc f && dbg f && S.free.contains f && !(f == ("__name__" : Str)) && (f == ("range" : Str)) with
    | true => (match es with
      | [a] => (match notStar a with
        | true => iRange1 (r.E S xc a)
        | false => bI)
      | [a, b] => (match notStar a && notStar b with
        | true => iRange2 (r.E S xc a) (r.E S xc b)
        | false => bI)
      | _ => bI)
    | false => (match S.calm && isGlob S.sc f && dbg f && S.free.contains f && !(f == ("__name__" : Str)) && (f == ("enumerate" : Str)) with
      | true => (match tg with
        | .Tuple _ _ _ => (match es with
          | [a] => (match notStar a with
            | true => iEnumP (r.E S xc a)
            | false => bI)
          | _ => bI)
        | _ => bI)
      | false => iVal (stCall r S xc f es)))
  | e => iVal (r.E S xc e)
def stG : Expr → pG
  | .Name x _ => (match slotW S x with
    | some i => gP i
    | none => bG)
  | .Tuple es _ _ => (match S.calm && es.all notStar with
    | true => gTL es.length (stGs r S xc es)
    | false => bG)
  | .Subscript o i _ => (match (isNm o).bind (slotR S), plainIx i with
    | some k, true => gIx k (r.E S xc i)
    | _, _ => bG)
  | _ => bG
/-- the targets are no pair of names whose values are a pair -/
def noSwap : Expr → Expr → Bool
  | .Tuple _ _ _, .Tuple _ _ _ => false
  | .List _ _, .Tuple _ _ _ => false
  | _, _ => true
def kindFn (sc : Scope) : Bool := match sc.kind with
  | .function => true
  | _ => false
def pairW (tg e : Expr) : Option (Str × Str × Expr × Expr) := match tg, e with
  | .Tuple [.Name x px, .Name y py] _ _, .Tuple [a, b] _ _ => (match (px.line == py.line) && !(x == y) && notStar a && notStar b && !([a, b].all (foldedForSure 8)) && !([a, b].all (constantsAlone 8)) with
    | true => some (x, y, a, b)
    | false => none)
  | _, _ => none
def stS : Stmt → pS
  | .Pass _ => sNext
  | .Break _ => sBreak
  | .Continue _ => sCont
  | .Expr e _ => (match e with
    | .Constant (.str _) _ _ => sNext
    | e => (match noComp e with
      | true => sDrop (r.E S xc e)
      | false => bS))
  | .Return o _ => (match o with
    | none => sRet (pC .non)
    | some e => (match (isNm e).bind (slotR S) with
      | some i => sRet (pMove i)
      | none => sRet (r.E S xc e)))
  | .If c a b _ => sIf (r.T S xc c) (stB r S xc a) (stB r S xc b)
  | .Assign tgs e _ => (match S.calm, S.own, tgs with
    | true, none, [tg] => (match tg with
      | .Name x _ => (match slotW S x with
        | some i => (match e with
          | .ListComp elt [⟨tg, iter, ifs, 0⟩] sc _ => sAsg (stLc r S xc elt tg iter ifs sc) (gP i)
          | e => (match noComp e with
            | true => sAsg (r.E S xc e) (gP i)
            | false => bS))
        | none => bS)
      | tg => (match noComp e && notStar tg with
        | false => bS
        | true => (match noSwap tg e with
          | true => sAsg (r.E S xc e) (r.G S xc tg)
          | false => (match pairW tg e with
            | some (x, y, a, b) => (match kindFn S.sc && isLocK S.sc x && isLocK S.sc y, slotW S x, slotW S y with
              | true, some i, some j => (match i == j with
                | true => bS
                | false => sPar i j (stA r S xc [a, b]))
              | _, _, _ => bS)
            | none => bS))))
    | _, _, _ => bS)
  | .AugAssign tg op e _ => (match tg, op with
    | .Subscript o i _, .Add => (match (isNm o).bind (slotR S), plainIx i with
      | some k, true => sAugIx k (r.E S xc i) (r.E S xc e)
      | _, _ => bS)
    | _, _ => bS)
  | .For tg iter body els _ => (match S.calm, S.own, els, noSet iter with
    | true, none, [], true => pFor (r.I S xc tg iter) (r.G S xc tg) (stB r S xc body)
    | _, _, _, _ => bS)
  | .While c body els _ => (match els with
    | [] => pWhile (r.T S xc c) (stB r S xc body)
    | _ => bS)
  | .Raise e c _ => (match S.calm, S.own, e, c with
    | true, none, some (.Call (.Name f _) es [] _), none => (match isGlob S.sc f && dbg f && es.all notStar, S.errs.lookup f with
      | true, some (x :: fs) => (match es with
        | [] => bS
        | es => sRaise f (x :: fs) (stA r S xc es) xc)
      | _, _ => bS)
    | _, _, _, _ => bS)
  | .Try body hds els fin _ => (match S.calm, S.own, hds, els, fin with
    | true, none, [.ExceptHandler (some (.Name c _)) (some n) (s0 :: suite) _], [], [] => (match isGlob S.sc c && dbg c && isLocK S.sc n && (S.exm.lookup (c, c)).isSome, slotW S n with
      | true, some i => sTryAs i (fun y => S.exm.lookup (y, c)) (fun xc' => stB r S xc' body) (stB r { S with calm := false } xno (s0 :: suite)) xc
      | _, _ => bS)
    | _, _, _, _, _ => bS)
  | _ => bS
end
def Sem.bad : Sem := ⟨fun _ _ _ => pBad, fun _ _ _ => bV, fun _ _ _ => bT, fun _ _ _ _ => bI, fun _ _ _ => bG, fun _ _ _ => bS⟩
def Sem.step (r : Sem) : Sem := ⟨stE r, stV r, stT r, stI r, stG r, stS r⟩
def sem : Nat → Sem
  | 0 => .bad
  | n + 1 => (sem n).step
end PL
set_option Elab.async false
set_option linter.all false
set_option maxRecDepth 100000
set_option maxHeartbeats 4000000
/-! PL12: the readings of expressions are sound. -/
namespace PL
open PySem PySem.Spec PyProof.Rows L2 PLX

/-- what is told of the module -/
structure Glob (S : SC) (P : Program) (w : World) (K : PySem.W.Frag) (mg : Str → Option Value) (base : Heap) : Prop where
  fn : ∀ x np nloc ref p, S.G.lookup x = some (.fn np nloc ref p) → ∃ f fd ps, mg x = some (.ref f) ∧ PySem.W.keepIn K (.ref f) = true ∧ Binds K fd ps [] ∧ FnOk P w K mg base (L2.CX P w) S.lev f fd ps (l2sp K mg (semFn nloc np ref p))
  con : ∀ x d, S.G.lookup x = some (.con d) → ∃ u v, mg x = some u ∧ RelV v u ∧ ∀ S, Rp K mg S d v
  err : ∀ c f fs, S.errs.lookup c = some (f :: fs) → mg "super" = none ∧ ∃ (C fI : Addr) (qual : Str) (params : Arguments) (scope : Scope) (text : Str) (kk : Nat) (p0 p1 p2 p3 p4 p5 : Pos) (rows : List Stmt), mg c = some (.ref C) ∧ (p2.endLine == p3.line) = true ∧
    OwnC P K C fI qual params (supRow text kk p0 p1 p2 p3 p4 p5 :: rows) scope (f :: fs) ∧ OwnS P params scope (f :: fs) ∧ FldRows (f :: fs) rows ∧ (f :: fs).length ≤ 900
  exm : ∀ y c b, S.exm.lookup (y, c) = some b → ∃ Cy Cc, mg y = some (.ref Cy) ∧ mg c = some (.ref Cc) ∧ PySem.W.exmOne K (.ref Cy) (.ref Cc) = some b ∧ PySem.W.kitOne K (.ref Cy) (.ref Cc) = some b ∧ XfC K Cy ∧ ExcC K Cy ∧ ∀ f ∈ S.flds, PySem.W.findIn K (.ref Cy) f = some none
  free : ∀ x ∈ S.free, mg x = none
structure Good (S : SC) (X : Cx) (C : Cfg) (xc : XC) : Prop where
  gl : Glob S X.prog X.w X.K X.mg X.base
  K : X.K = C.K
  mg : X.mg = C.mg
  N : X.N = S.N
  nd : S.N.Nodup
  sc : X.env.scope = S.sc
  calm : S.calm = true → X.calm = true ∧ Room S.lev X.A
  takes : Takes X (canX C xc)
  po : PassesOwn (model X.prog X.w) X.A X.env X.xe
  hu : X.A.units + 64 < cLine
  st : S.own = none → S.calm = true → X.stack = X.env :: X.outer ∧ X.env.frame = some X.env.locals
  fn : S.own = none → ∀ x, X.fn x = true
  exn : S.calm = true → C.ex = none
  sui : S.calm = false → ∃ a oe X0 pn cl dd y c b, X = Cx.suite X0 a ((a, oe) :: pn) ∧ C.ex = some (a, .ref cl, some dd) ∧ Zc (.ref cl) (some dd) oe ∧ (∃ vs, oe.data = .fields vs) ∧ C.mg y = some (.ref cl) ∧ S.exm.lookup (y, c) = some b

theorem idxAt_ok {x : Str} : ∀ {l : List Str} {i j : Nat}, idxAt x l i = some j → ∃ k, j = i + k ∧ l[k]? = some x
  | [], _, _, h => by cases h
  | y :: r, i, j, h => by
    unfold idxAt at h
    split at h
    · rename_i e
      cases h
      exact ⟨0, rfl, by rw [beq_iff_eq.mp e]; rfl⟩
    · obtain ⟨k, h1, h2⟩ := idxAt_ok h
      exact ⟨k + 1, by omega, by simpa using h2⟩
theorem idx_ok {x : Str} {l : List Str} {j : Nat} (h : idxAt x l 0 = some j) : l[j]? = some x := by
  obtain ⟨k, h1, h2⟩ := idxAt_ok h
  rw [Nat.zero_add] at h1
  subst h1
  exact h2
theorem dbg_ok {x : Str} (h : dbg x = true) : (x == ("__debug__" : Str)) = false ∧ (x == ("__classdict__" : Str)) = false := by
  unfold dbg at h
  simpa using h
section
variable {S : SC} {X : Cx} {C : Cfg} {xc : XC} {x : Str} {i : Nat} {pos : Pos} {e : Expr}
theorem Good.vis (g : Good S X C xc) (h : isVis S.sc x = true) : Vis X.env.scope x := by
  unfold isVis at h
  unfold Vis
  rw [g.sc]
  split at h
  · exact .inl (by assumption)
  · exact .inr (.inl (by assumption))
  · exact .inr (.inr (by assumption))
  · cases h
theorem Good.gl_of (g : Good S X C xc) (h : isGlob S.sc x = true) : Gl X x := by
  unfold isGlob at h
  show X.env.scope.names.lookup x = _
  rw [g.sc]
  split at h
  · assumption
  · cases h
theorem Good.read (g : Good S X C xc) (h : slotR S x = some i) : PE X (.Name x pos) (tVar i) := by
  unfold slotR at h
  split at h
  · rename_i q
    rw [Bool.and_eq_true] at q
    obtain ⟨q1, q2⟩ := q
    exact pe_var (by rw [g.N]; exact idx_ok h) (g.vis q1) (dbg_ok q2).1 (dbg_ok q2).2
  · cases h
theorem Good.name (g : Good S X C xc) (h : (isNm e).bind (slotR S) = some i) : ∃ x p, e = .Name x p ∧ PE X e (tVar i) := by
  cases e with
  | Name x p => exact ⟨x, p, rfl, g.read h⟩
  | _ => cases h
def rho (S : SC) : L2.St → L2.St → Prop := match S.own with
  | none => anySt
  | some own => fun σ τ => L2.wipe τ own = L2.wipe σ own
theorem rho_ok (S : SC) : RhoOk (rho S) := by
  unfold rho
  split
  · exact anySt_ok
  · exact wipe_ok _
theorem Good.write (g : Good S X C xc) (h : slotW S x = some i) : S.N[i]? = some x ∧ L2.Loc X.env.scope x ∧ (X.fn x = true ∨ X.env.scope.names.lookup x = some .local) ∧ ∀ σ v, rho S σ (σ.set i (some v)) := by
  unfold slotW at h
  split at h
  · rename_i ho
    split at h
    · rename_i q
      refine ⟨idx_ok h, ?_, .inl (g.fn ho x), fun σ v => ?_⟩
      · unfold isLoc at q
        unfold L2.Loc
        rw [g.sc]
        split at q
        · exact .inl (by assumption)
        · exact .inr (by assumption)
        · cases q
      · unfold rho; rw [ho]; exact trivial
    · cases h
  · rename_i own ho
    split at h
    · rename_i q
      split at h
      · rename_i j hj
        split at h
        · rename_i hc
          cases h
          have hl : X.env.scope.names.lookup x = some .local := by
            unfold isLocK at q
            rw [g.sc]
            split at q
            · assumption
            · cases q
          refine ⟨idx_ok hj, .inl hl, .inr hl, fun σ v => ?_⟩
          unfold rho
          rw [ho]
          exact wipe_set (by simpa using hc)
        · cases h
      · cases h
    · cases h
theorem PE.bad {t : pE} (h : ∀ e P, t e P → False) : PE X e (canE C t) := ⟨fun pins s σ H Q I ⟨ts, vs, e1, P, R, w, k⟩ => (h _ _ w).elim⟩
theorem pe_bad : PE X e (canE C pBad) := PE.bad fun _ _ h => h
theorem pp_bad : PE X e (canP C bV) := ⟨fun pins s σ H Q I ⟨ts, vs, e1, P, R, w, k⟩ => w.elim⟩
theorem pt_bad : PT X e (canT C bT) := ⟨fun pins s σ H Q I ⟨ts, vs, e1, P, R, w, k⟩ => w.elim⟩
theorem pi_bad {tg : Expr} : PI X tg e (canI C bI) := ⟨fun pins s σ H R I ⟨ts, vs, e1, P, R0, w, k⟩ => w.elim⟩
theorem pg_bad {ρ : L2.St → L2.St → Prop} : PG X e (canG C ρ bG) := ⟨fun pins s σ H v u Q I r ⟨sv, ts, vs, e1, P, R0, w, k⟩ => w.elim⟩
theorem ps_bad {st : Stmt} : PS X st (canS C bS) := ⟨fun pins s σ H D I ⟨ts, vs, e1, Q, R0, w, k⟩ => w.elim⟩
theorem pa_bad {es : List Expr} : PA X es (canK C bA) := ⟨fun pos pins s σ H Q I ⟨ts, vs, e1, P, R0, w, k⟩ => w.elim⟩
theorem pl_bad {es : List Expr} : PA X es (canL C bA) := ⟨fun pos pins s σ H Q I ⟨ts, vs, e1, P, R0, w, k⟩ => w.elim⟩
end
structure Sound (r : Sem) : Prop where
  E : ∀ {S X C xc e}, Good S X C xc → PE X e (canE C (r.E S xc e))
  V : ∀ {S X C xc e}, Good S X C xc → PE X e (canP C (r.V S xc e))
  T : ∀ {S X C xc e}, Good S X C xc → PT X e (canT C (r.T S xc e))
  I : ∀ {S X C xc tg e}, Good S X C xc → PI X tg e (canI C (r.I S xc tg e))
  G : ∀ {S X C xc e}, Good S X C xc → PG X e (canG C (rho S) (r.G S xc e))
  S : ∀ {S X C xc st}, Good S X C xc → PS X st (canS C (r.S S xc st))
theorem sound_bad : Sound .bad := ⟨fun _ => pe_bad, fun _ => pp_bad, fun _ => pt_bad, fun _ => pi_bad, fun _ => pg_bad, fun _ => ps_bad⟩

section
variable {r : Sem} {S : SC} {X : Cx} {C : Cfg} {xc : XC}
theorem so_A (h : Sound r) (g : Good S X C xc) : ∀ es, PA X es (canK C (stA r S xc es))
  | [] => mk_nil
  | e :: es => by
    unfold stA
    split
    · exact mk_cons (by assumption) (h.E g) (so_A h g es)
    · exact pa_bad
theorem so_L (h : Sound r) (g : Good S X C xc) : ∀ es, PA X es (canL C (stL r S xc es))
  | [] => by unfold stL; exact ml_of mk_nil
  | [e] => by
    unfold stL
    split
    · exact ml_last (by assumption) (h.V g)
    · exact pl_bad
  | e :: e2 :: es => by
    unfold stL
    split
    · exact ml_cons (by assumption) (h.E g) (so_L h g (e2 :: es))
    · exact pl_bad
theorem so_B (h : Sound r) (g : Good S X C xc) : ∀ ss, PSs X ss (canS C (stB r S xc ss))
  | [] => mb_nil
  | [s] => by unfold stB; exact mb_one (h.S g)
  | s :: s2 :: ss => by unfold stB; exact mb_cons (h.S g) (so_B h g (s2 :: ss))
theorem so_andV (h : Sound r) (g : Good S X C xc) {pos : Pos} : ∀ es, PE X (.BoolOp .And es pos) (canE C (stAndV r S xc es))
  | [] => pe_bad
  | [e] => by unfold stAndV; exact pe_one (h.E g)
  | e :: e2 :: es => by unfold stAndV; exact me_andV (t := pBad) (fun ta tb ha hb => pe_and ha hb) (h.E g) (so_andV h g (e2 :: es))
theorem so_orV (h : Sound r) (g : Good S X C xc) {pos : Pos} : ∀ es, PE X (.BoolOp .Or es pos) (canE C (stOrV r S xc es))
  | [] => pe_bad
  | [e] => by unfold stOrV; exact pe_one (h.E g)
  | e :: e2 :: es => by unfold stOrV; exact me_orV (t := pBad) (fun ta tb ha hb => pe_or ha hb) (h.E g) (so_orV h g (e2 :: es))
theorem so_andT (h : Sound r) (g : Good S X C xc) {pos : Pos} : ∀ es, PW X (.BoolOp .And es pos) (canT C (stAndT r S xc es))
  | [] => ⟨fun w pins s σ H Q I ⟨ts, vs, e1, P, R0, x, k⟩ => x.elim⟩
  | [e] => by unfold stAndT; exact pw_and1 (h.T g)
  | e :: e2 :: es => by unfold stAndT; exact mw_and (h.T g) (so_andT h g (e2 :: es))
theorem so_orT (h : Sound r) (g : Good S X C xc) {pos : Pos} : ∀ es, PW X (.BoolOp .Or es pos) (canT C (stOrT r S xc es))
  | [] => ⟨fun w pins s σ H Q I ⟨ts, vs, e1, P, R0, x, k⟩ => x.elim⟩
  | [e] => by unfold stOrT; exact pw_or1 (h.T g)
  | e :: e2 :: es => by unfold stOrT; exact mw_or (h.T g) (so_orT h g (e2 :: es))
theorem so_Gs (h : Sound r) (g : Good S X C xc) : ∀ es, PGs X es (canGs C (rho S) (stGs r S xc es))
  | [] => mgs_nil (rho_ok S)
  | e :: es => by
    unfold stGs
    split
    · exact mgs_cons (rho_ok S) (by assumption) (h.G g) (so_Gs h g es)
    · exact ⟨fun pins s σ H ws us Q I r ⟨ds, ts, vs, e1, P, hl, R0, w, k⟩ => w.elim⟩
theorem so_O (h : Sound r) (g : Good S X C xc) : ∀ o, PO X o (canO C (pPart (stO r S xc o)))
  | none => mo_none
  | some e => mo_some (h.E g)
theorem so_V (h : Sound r) (g : Good S X C xc) (e : Expr) : PE X e (canP C (stV r S xc e)) := by
  unfold stV
  split
  · obtain ⟨x, p, rfl, hv⟩ := g.name (by assumption)
    exact mp_pk hv
  · exact mp_of (h.E g)
theorem is_none {e : Expr} (h : isNone e = true) : ∃ k p, e = .Constant .none k p := by
  unfold isNone at h
  split at h
  · exact ⟨_, _, rfl⟩
  · cases h
theorem so_cmp (h : Sound r) (g : Good S X C xc) {pos : Pos} {a b : Expr} {op : CmpOp} : PE X (.Compare a [op] [b] pos) (canE C (stCmp r S xc a op b)) := by
  unfold stCmp
  split
  · split
    · obtain ⟨k, p, rfl⟩ := is_none (by assumption)
      exact me_isN (h.V g)
    · exact pe_bad
  · split
    · obtain ⟨k, p, rfl⟩ := is_none (by assumption)
      exact me_notN (h.V g)
    · exact pe_bad
  · split
    · exact me_op rfl (fun ta tb ha hb => pe_cmpR (by rw [← g.K]; exact cmp_can op g.hu) ha hb (by assumption)) (h.E g) (h.V g)
    · exact pe_bad
/-- comparisons as tests -/
theorem mt_pB {p : pE} {t : TT} {e : Expr} (h : PT X e t) (f : ∀ σ H Q, canE C p σ H (fun x H' => ∃ k, x = .bl k ∧ Q k H') → t σ H Q) : PT X e (canT C (pB p)) :=
  h.up fun σ H Q ⟨ts, vs, e1, P, R, w, k⟩ => f σ H Q (useB R w fun b e' H' R' h' => ⟨b, rfl, k b e' H' R' h'⟩)
end
end PL
set_option Elab.async false
set_option linter.all false
set_option maxRecDepth 100000
set_option maxHeartbeats 4000000
/-! PL13: .. and those of calls, loops, statements. -/
namespace PL
open PySem PySem.Spec PyProof.Rows L2 PLX
section
variable {r : Sem} {S : SC} {X : Cx} {C : Cfg} {xc : XC}
theorem so_chain (h : Sound r) (g : Good S X C xc) {pos : Pos} {a b c : Expr} {op op' : CmpOp} (hm : lastMarks [op, op'] [b, c] = false) : PE X (.Compare a [op, op'] [b, c] pos) (canE C (pChain (cmpB op) (cmpB op') (r.E S xc a) (r.E S xc b) (r.V S xc c))) :=
  me_chain rfl rfl (fun ta tb tc ha hb hc => pe_chain (by rw [← g.K]; exact cmp_can op g.hu) (by rw [← g.K]; exact cmp_can op' g.hu) ha hb hc hm) (h.E g) (h.E g) (h.V g)
/-- the same, as a test -/
theorem so_chainT (h : Sound r) (g : Good S X C xc) {pos : Pos} {a b c : Expr} {op op' : CmpOp} (hm : lastMarks [op, op'] [b, c] = false) : PT X (.Compare a [op, op'] [b, c] pos) (canT C (pB (pChain (cmpB op) (cmpB op') (r.E S xc a) (r.E S xc b) (r.V S xc c)))) := by
  have k := pt_chain (pos := pos) (r := can2 C.K C.mg (cmpB op)) (r' := can2 C.K C.mg (cmpB op')) (by rw [← g.K]; exact cmp_can op g.hu) (by rw [← g.K]; exact cmp_can op' g.hu) (h.E g (e := a)) (h.E g (e := b)) (h.V g (e := c)) hm
  refine mt_pB k fun σ H Q w => ?_
  -- the value's reading, from its own rule over an expression that is only read
  obtain ⟨ts, vs, e, P, R, w, kk⟩ := w
  refine useF R w fun x e1 v H1 R1 h1 => useF R1 h1 fun y e2 w H2 ⟨S', R2⟩ h2 => ?_
  refine ⟨S', x, y, _, R2.sub, .inl R2.pop.topV, .inl R2.topV, h2, fun z v' H' res hz => ?_⟩
  split at hz
  · obtain ⟨S2, R3⟩ := R2.res res
    have t := R3.topV
    cases t
    refine ⟨true, rfl, iteT ?_⟩
    refine useP ⟨S2, R3.pop⟩ hz fun S4 d e4 w4 H4 R4 r4 h4 => ?_
    exact ⟨S4, y, d, _, R4.sub, .inl R4.topV, r4, h4, fun z v' H' res hz => kk z e4 v' H' (Rep.res R4.pop.pop res) hz⟩
  · obtain ⟨S2, R3⟩ := R2.res res
    have t := R3.topV
    cases t
    exact ⟨false, rfl, iteF (kk _ e2 _ _ ⟨S2, R3.pop.pop.pop.pushV (.bl _)⟩ hz)⟩
  · exact hz.elim
theorem so_cmpT (h : Sound r) (g : Good S X C xc) {pos : Pos} {a b : Expr} {op : CmpOp} : PT X (.Compare a [op] [b] pos) (canT C (pB (stCmp r S xc a op b))) := by
  unfold stCmp
  split
  · split
    · obtain ⟨k, p, rfl⟩ := is_none (by assumption)
      refine mt_pB (pt_cmp (pc_isN (h.V g))) fun σ H Q ⟨ts, vs, e, P, R, w, k⟩ => useP R w fun S x e1 v H1 R1 rx h1 => ?_
      rw [rx.isNon]
      exact k _ e1 _ H1 ⟨S, R1.pushV (.bl _)⟩ h1
    · exact ⟨fun pins s σ H Q I ⟨ts, vs, e1, P, R, w, k⟩ => w.elim⟩
  · split
    · obtain ⟨k, p, rfl⟩ := is_none (by assumption)
      refine mt_pB (pt_cmp (pc_notN (h.V g))) fun σ H Q ⟨ts, vs, e, P, R, w, k⟩ => useP R w fun S x e1 v H1 R1 rx h1 => ?_
      rw [rx.isNon]
      exact k _ e1 _ H1 ⟨S, R1.pushV (.bl _)⟩ h1
    · exact ⟨fun pins s σ H Q I ⟨ts, vs, e1, P, R, w, k⟩ => w.elim⟩
  · split
    · refine mt_pB (pt_cmpR (r := can2 C.K C.mg (cmpB op)) (by rw [← g.K]; exact cmp_can op g.hu) (h.E g) (h.V g) (by assumption)) fun σ H Q ⟨ts, vs, e, P, R, w, k⟩ => ?_
      exact useF R w fun x e1 v H1 R1 h1 => useP R1 h1 fun S y e2 w H2 R2 ry h2 => ⟨S, x, y, _, R2.sub, .inl R2.topV, ry, h2, fun z v' H' res hz => k z e2 v' H' (Rep.res R2.pop res) hz⟩
    · exact ⟨fun pins s σ H Q I ⟨ts, vs, e1, P, R, w, k⟩ => w.elim⟩
theorem pt_plain {e : Expr} {t : TE} (hp : plainT e = true) (h : PE X e t) : PT X e (tB t) := by
  refine pt_val h fun whole => ?_
  cases e with
  | UnaryOp op a p => cases op <;> first | rfl | cases hp
  | BoolOp _ _ _ => cases hp
  | IfExp _ _ _ _ => cases hp
  | Compare _ _ _ _ => cases hp
  | _ => rfl
theorem so_T (h : Sound r) (g : Good S X C xc) (e : Expr) : PT X e (canT C (stT r S xc e)) := by
  unfold stT
  split
  · split
    · exact mt_not (h.T g)
    · refine mt_of (fun t ht => pt_plain ?_ ht) (h.E g)
      unfold plainT
      split <;> simp_all
  · split
    · exact ⟨fun pins s σ H Q I w => (so_andT h g _).run _ pins s σ H Q I w⟩
    · exact ⟨fun pins s σ H Q I w => (so_orT h g _).run _ pins s σ H Q I w⟩
  · exact pt_bad
  · split
    · exact so_cmpT h g
    · split
      · exact so_chainT h g (by assumption)
      · exact pt_bad
    · exact pt_bad
  · refine mt_of (fun t ht => pt_plain ?_ ht) (h.E g)
    unfold plainT
    split <;> simp_all
    all_goals
      rename_i q
      exact q _ _ _ _ rfl rfl rfl rfl

theorem mem_free {f : Str} {l : List Str} (h : l.contains f = true) : f ∈ l := by simpa using h
theorem lookup_in {α : Type} {f : Str} {b : α} : ∀ {l : List (Str × α)}, l.lookup f = some b → (f, b) ∈ l
  | [], h => by cases h
  | (g, c) :: l, h => by
    rw [List.lookup_cons] at h
    split at h
    · rename_i q
      cases h
      rw [beq_iff_eq.mp q]
      exact List.mem_cons_self
    · exact List.mem_cons_of_mem _ (lookup_in h)
def isBT : Value → Bool
  | .builtin _ => true
  | .type _ => true
  | _ => false
theorem bltTab_ok : (bltTab.all fun p => decide (bootBuiltins p.1 = some p.2.val) && isBT p.2.val) = true := by decide +kernel
theorem tyTab_ok : (tyTab.all fun p => decide (bootBuiltins p.1 = some (.type p.2))) = true := by decide +kernel
theorem bltOf_ok {f : Str} {b : Blt} (h : bltOf f = some b) : bootBuiltins f = some b.val ∧ ((∃ id, b.val = .builtin id) ∨ ∃ T, b.val = .type T) := by
  have q := List.all_eq_true.mp bltTab_ok _ (lookup_in h)
  rw [Bool.and_eq_true] at q
  refine ⟨of_decide_eq_true q.1, ?_⟩
  have q2 := q.2
  unfold isBT at q2
  split at q2
  · rename_i e; exact .inl ⟨_, e⟩
  · rename_i e; exact .inr ⟨_, e⟩
  · cases q2
theorem tyOf_ok {f : Str} {T : String} (h : tyOf f = some T) : bootBuiltins f = some (.type T) := of_decide_eq_true (List.all_eq_true.mp tyTab_ok _ (lookup_in h))
theorem ne_name {f : Str} (h : (!(f == ("__name__" : Str))) = true) : f ≠ "__name__" := by simpa using h
theorem so_call (h : Sound r) (g : Good S X C xc) {f : Str} {p pos : Pos} {es : List Expr} : PE X (.Call (.Name f p) es [] pos) (canE C (stCall r S xc f es)) := by
  unfold stCall
  split
  · exact pe_bad
  rename_i hh
  simp only [Bool.and_eq_true] at hh
  obtain ⟨⟨hg, hd⟩, hn⟩ := hh
  have hgl := g.gl_of hg
  split
  · rename_i np nloc ref q hG
    split
    · exact pe_bad
    rename_i hc
    obtain ⟨f', fd, ps, hm, hk, hb, F⟩ := g.gl.fn _ _ _ _ _ hG
    obtain ⟨hcalm, hr⟩ := g.calm hc
    split
    · split
      · exact pe_bad
      · rename_i es' hne
        cases es with
        | nil => exact absurd rfl hne
        | cons e es =>
          have hn2 : notStar e = true ∧ es.all notStar = true := by simpa using hn
          refine me_call (fun t ht => ?_) (so_A h g _)
          refine pe_callS (sp := l2sp C.K C.mg (semFn nloc np false q)) (E := WE (canX C xc)) (by rw [← g.K, ← g.mg]; exact F) hr hgl hm hk hb (fun σ => passAt g.takes σ) ht (dbg_ok hd).1 (star_cons hn2.1) (star_any hn2.2)
    · split
      · split
        · rename_i x0 q0 es0 _ i0 hs
          refine me_callR (x0 := .Name x0 q0) rfl (fun t ht => ?_) (g.read (pos := q0) hs) (so_A h g es0)
          exact pe_callS (sp := l2sp C.K C.mg (semFn nloc np true q)) (E := WE (canX C xc)) (by rw [← g.K, ← g.mg]; exact F) hr hgl hm hk hb (fun σ => passAt g.takes σ) ht (dbg_ok hd).1 (star_cons rfl) (star_any (by simpa [notStar] using hn))
        · exact pe_bad
      · exact pe_bad
  · exact pe_bad
  · split
    · exact pe_bad
    rename_i hf
    rw [Bool.and_eq_true] at hf
    have hfree := g.gl.free _ (mem_free hf.1)
    have hnn := ne_name hf.2
    split
    · rename_i hisi
      have ef : f = "isinstance" := beq_iff_eq.mp hisi
      subst ef
      split
      · rename_i a t pt
        split
        · rename_i ht
          simp only [Bool.and_eq_true] at ht
          obtain ⟨⟨⟨t1, t2⟩, t3⟩, t4⟩ := ht
          split
          · rename_i T hT
            have hn1 : notStar a = true := by
              rw [List.all_cons, Bool.and_eq_true] at hn
              exact hn.1
            refine me_isi (x2 := .Name t pt) g.K (fun ta ha => ?_) hn1 rfl (h.V g) (pe_bltn (g.gl_of t1) (g.gl.free _ (mem_free t3)) (tyOf_ok hT) rfl (ne_name t4) (dbg_ok t2).1)
            exact pe_callB call_isi hgl hfree (by decide +kernel) ha hnn (dbg_ok hd).1 (star_cons hn1) (star_any rfl)
          · exact pe_bad
        · split
          · exact pe_bad
          rename_i hc
          split
          · rename_i ht
            rw [Bool.and_eq_true] at ht
            split
            · rename_i y py
              split
              · rename_i i hi
                obtain ⟨a0, oe, X0, pn, cl, dd, y0, c0, b0, rfl, hex, hz, hfl, hy0, hex0⟩ := g.sui hc
                have hmy : (Cx.suite X0 a0 ((a0, oe) :: pn)).mg y0 = some (.ref cl) := by rw [g.mg]; exact hy0
                obtain ⟨Cy, Cc, m1, m2, m3, m4, m5, m6, m7⟩ := g.gl.exm _ _ _ hex0
                rw [hmy] at m1
                cases m1
                cases hlk : (Cx.suite X0 a0 ((a0, oe) :: pn)).mg t with
                | none =>
                  -- no such name: the reading is never met
                  refine ⟨fun pins s σ H Q I ⟨ts, vs, e1, P, R, ⟨x, b, hx, hb, hP⟩, k⟩ => ?_⟩
                  obtain ⟨Cy, Cc, k1, k2, _⟩ := g.gl.exm _ _ _ hb
                  rw [hlk] at k2
                  cases k2
                | some u =>
                  by_cases hu : ∃ cN, u = .ref cN
                  · obtain ⟨cN, rfl⟩ := hu
                    refine me_isX (X := X0) (e := .Name y py) (x2 := .Name t pt) (cN := cN) m6 hz hfl hex (by exact g.mg) (fun x b hx hmx => ?_) (fun ta hca hta => ?_) rfl rfl (g.read hi) (pe_glob (g.gl_of ht.1) hlk rfl (dbg_ok ht.2).1)
                    · obtain ⟨Cy, Cc, k1, k2, k3, k4, _⟩ := g.gl.exm _ _ _ hx
                      rw [g.mg, hmx] at k1
                      cases k1
                      rw [hlk] at k2
                      cases k2
                      exact k4
                    · exact pe_callB hca hgl hfree (by decide +kernel) hta hnn (dbg_ok hd).1 (star_cons rfl) (star_any rfl)
                  · refine ⟨fun pins s σ H Q I ⟨ts, vs, e1, P, R, ⟨x, b, hx, hb, hP⟩, k⟩ => ?_⟩
                    obtain ⟨Cy, Cc, k1, k2, _⟩ := g.gl.exm _ _ _ hb
                    rw [hlk] at k2
                    cases k2
                    exact absurd ⟨_, rfl⟩ hu
              · exact pe_bad
            · exact pe_bad
          · exact pe_bad
      · exact pe_bad
    · split
      · exact pe_bad
      rename_i hc
      split
      · rename_i b hb
        split
        · exact pe_bad
        · rename_i es' hne
          cases es with
          | nil => exact absurd rfl hne
          | cons e es =>
            have hn2 : notStar e = true ∧ es.all notStar = true := by simpa using hn
            obtain ⟨hv, hk⟩ := bltOf_ok hb
            refine me_blt rfl (fun ta hta => ?_) (so_L h g _)
            have hcr := blt_can (X := X) (mg := C.mg) (g.calm hc).1 g.hu b
            rw [g.K] at hcr
            rcases hk with ⟨id, e1⟩ | ⟨T, e1⟩
            · rw [e1] at hv hcr
              exact pe_callB hcr hgl hfree hv hta hnn (dbg_ok hd).1 (star_cons hn2.1) (star_any hn2.2)
            · rw [e1] at hv hcr
              exact pe_callTy hcr hgl hfree hv hta hnn (dbg_ok hd).1 (star_cons hn2.1) (star_any hn2.2)
      · exact pe_bad
theorem so_meth (h : Sound r) (g : Good S X C xc) {o : Expr} {m : Str} {apos pos : Pos} {es : List Expr} : PE X (.Call (.Attribute o m apos) es [] pos) (canE C (stMeth r S xc o m apos pos es)) := by
  unfold stMeth
  split
  · split
    · exact pe_bad
    rename_i hi
    have hv := fun pos => g.read (pos := pos) hi
    split
    · exact pe_bad
    rename_i hl
    split
    · split
      · rename_i hm
        have em : m = "pop" := beq_iff_eq.mp hm
        subst em
        exact me_pop (pe_bm0 PySem.F.plainAttrs_list PySem.F.slot_list_pop PySem.F.type_list_pop mt_pop (hv _) rfl hl)
      · exact pe_bad
    · split
      · exact pe_bad
      rename_i e _ hn
      have few : ((backTo pos (starEach [e] X.env)).all (fun x => !x.1) && (backToKw pos (keywordEach [] X.env)).all (fun x => x.1.isSome)
          && decide ([e].length + ([] : List Keyword).length + (if ([] : List Keyword).isEmpty then 0 else 1) < 30)) = true := by
        rw [star_cons hn]
        rfl
      split
      · rename_i hm
        have em : m = "append" := beq_iff_eq.mp hm
        subst em
        exact me_append (fun t ht => pe_bm PySem.F.plainAttrs_list PySem.F.slot_list_append PySem.F.type_list_append mt_append (hv _) (pa_cons ht pa_nil (star_cons hn)) rfl few hl (star_cons hn) (star_any rfl)) (h.E g)
      · split
        · rename_i hm
          have em : m = "pop" := beq_iff_eq.mp hm
          subst em
          exact me_popAt (fun t ht => pe_bm PySem.F.plainAttrs_list PySem.F.slot_list_pop PySem.F.type_list_pop mt_popAt (hv _) (pa_cons ht pa_nil (star_cons hn)) rfl few hl (star_cons hn) (star_any rfl)) (h.E g)
        · exact pe_bad
    · exact pe_bad
  · exact pe_bad
end
end PL
set_option Elab.async false
set_option linter.all false
set_option maxRecDepth 100000
set_option maxHeartbeats 4000000
/-! PL14: all readings are sound. -/
namespace PL
open PySem PySem.Spec PyProof.Rows L2 PLX
section
variable {r : Sem} {S : SC} {X : Cx} {C : Cfg} {xc : XC}
theorem fold_no {iter : Expr} {env : Env} (h : noSet iter = true) : ∀ x, foldedSetIterable iter env x = pure x := fun x => by
  cases iter with
  | Set _ _ _ => cases h
  | _ => rfl
theorem swap_no {e : Expr} {tg : Expr} {l : Nat} {env : Env} (h : noComp e = true) : swapsWith e (some tg) l env = pure false := by
  cases e with
  | ListComp _ _ _ _ => cases h
  | SetComp _ _ _ _ => cases h
  | DictComp _ _ _ _ _ => cases h
  | _ => rfl
theorem swap_no0 {e : Expr} {l : Nat} {env : Env} (h : noComp e = true) : swapsWith e none l env = pure false := by
  cases e with
  | ListComp _ _ _ _ => cases h
  | SetComp _ _ _ _ => cases h
  | DictComp _ _ _ _ _ => cases h
  | _ => rfl
theorem plain_ix {b : Expr} (h : plainIx b = true) : PlainIx b := fun o i => by
  cases b with
  | Slice _ _ _ _ => cases h
  | Tuple _ _ _ => cases h
  | _ => rfl
theorem Good.blk (g : Good S X C xc) (hc : S.calm = true) (sc : Scope) (own : List (Str × Nat)) (s : Shared) (H : Hp) (Cl : Addr) (cl : List (Str × Addr)) (fp : List Addr) : Good (blkS S sc own) (X.blk s H sc (compEnvC sc cl Cl X.env) fp) C xno where
  gl := ⟨g.gl.fn, g.gl.con, g.gl.err, g.gl.exm, g.gl.free⟩
  K := g.K
  mg := g.mg
  N := g.N
  nd := g.nd
  sc := by
    show relS sc X.env.scope = relS sc S.sc
    rw [g.sc]
  calm := fun _ => g.calm hc
  takes := takes_no
  po := PassesOwn.never
  hu := g.hu
  st := fun h => by cases h
  fn := fun h => by cases h
  exn := fun _ => g.exn hc
  sui := fun h => by
    have h : S.calm = false := h
    rw [hc] at h; cases h
theorem ifs_ok (h : Sound r) {S' : SC} {X' : Cx} {xc' : XC} (g : Good S' X' C xc') (ifs : List Expr) : PTs X' ifs (canT C (match ifs with
    | [] => pYes
    | [c] => r.T S' xc' c
    | _ => bT)) := by
  match ifs with
  | [] => exact pts_nil.up fun σ H Q ⟨ts, vs, e1, P, R, w, k⟩ => k true e1 H R w
  | [c] => exact pts_one (h.T g)
  | _ :: _ :: _ => exact ⟨fun pins s σ H Q I ⟨ts, vs, e1, P, R, w, k⟩ => w.elim⟩
theorem so_lc (h : Sound r) (g : Good S X C xc) {elt tg iter : Expr} {ifs : List Expr} {sc : Scope} {pos : Pos} : PE X (.ListComp elt [⟨tg, iter, ifs, 0⟩] sc pos) (canE C (stLc r S xc elt tg iter ifs sc)) := by
  unfold stLc
  split
  · exact pe_bad
  rename_i hh
  simp only [Bool.and_eq_true] at hh
  obtain ⟨⟨hc, hb⟩, hs⟩ := hh
  have B := fun s H Cl cl fp => g.blk hc sc (ownOf S.N sc.names) s H Cl cl fp
  refine (pe_lc (own := ownOf S.N sc.names) (g.calm hc).1 (by rw [g.N]; exact g.nd) (h.I g) (blkOk_by (by rw [g.N, g.sc]; exact hb)) (fun s H Cl cl fp => ?_) (fun s H Cl cl fp => ifs_ok h (B s H Cl cl fp) ifs) (fun s H Cl cl fp => h.E (B s H Cl cl fp)) (fold_no hs)).up fun σ H Q w => lc_can w
  exact h.G (B s H Cl cl fp)
theorem so_E (h : Sound r) (g : Good S X C xc) (e : Expr) : PE X e (canE C (stE r S xc e)) := by
  unfold stE
  split
  · split
    · exact me_c (t := fun _ _ _ => False) pe_int fun S => .int _
    · exact me_c (t := fun _ _ _ => False) pe_str fun S => .str _
    · exact me_c (t := fun _ _ _ => False) pe_bl fun S => .bl _
    · exact me_c (t := fun _ _ _ => False) pe_non fun S => .non
    · exact pe_bad
  · split
    · exact me_var (g.read (by assumption))
    · split
      · exact pe_bad
      rename_i hg
      rw [Bool.and_eq_true] at hg
      split
      · rename_i d hd
        obtain ⟨u, v, h1, h2, h3⟩ := g.gl.con _ _ hd
        exact me_c (t := fun _ _ _ => False) (pe_glob (g.gl_of hg.1) h1 h2 (dbg_ok hg.2).1) fun S => by rw [← g.K, ← g.mg]; exact h3 S
      · exact pe_bad
  · exact me_op rfl (fun ta tb ha hb => pe_op (by rw [← g.K]; exact op_can _) ha hb) (h.E g) (h.V g)
  · split
    · exact me_notV (h.E g)
    · exact me_un rfl (fun ta ha => pe_un (by rw [← g.K]; exact un_can _) ha) (h.E g)
  · split
    · exact so_andV h g _
    · exact so_orV h g _
  · exact me_if (h.T g) (h.E g) (h.E g)
  · split
    · exact so_cmp h g
    · split
      · exact so_chain h g (by assumption)
      · exact pe_bad
    · exact pe_bad
  · exact me_tup (so_A h g _)
  · exact me_lst (so_A h g _)
  · split
    · split
      · split
        · obtain ⟨x, p, rfl, hv⟩ := g.name (by assumption)
          exact me_sliceN (t := canSl C.K C.mg) rfl (fun tl th hl hh => pe_slice (by rw [← g.K]; exact sl_can) hv hl hh) (so_O h g _) (so_O h g _)
        · exact me_slice (t := canSl C.K C.mg) rfl (fun ta tl th ha hl hh => pe_slice (by rw [← g.K]; exact sl_can) ha hl hh) (h.E g) (so_O h g _) (so_O h g _)
      · exact pe_bad
    · split
      · exact pe_bad
      rename_i hp
      split
      · obtain ⟨x, p, rfl, hv⟩ := g.name (by assumption)
        exact me_ixN rfl (fun tb hb => pe_ix (by rw [← g.K]; exact ix_can) hv hb (plain_ix hp)) (h.V g)
      · exact me_op rfl (fun ta tb ha hb => pe_ix (by rw [← g.K]; exact ix_can) ha hb (plain_ix hp)) (h.E g) (h.V g)
  · split
    · exact so_lc h g
    · exact pe_bad
  · split
    · split
      · exact so_call h g
      · exact so_meth h g
      · exact pe_bad
    · exact pe_bad
  · split
    · exact pe_bad
    rename_i hc
    split
    · rename_i i hi
      split
      · rename_i hf
        obtain ⟨x, p, rfl, hv⟩ := g.name hi
        obtain ⟨a0, oe, X0, pn, cl, dd, y0, c0, b0, rfl, hex, hz, hfl, hy0, hex0⟩ := g.sui hc
        obtain ⟨Cy, Cc, m1, m2, m3, m4, m5, m6, m7⟩ := g.gl.exm _ _ _ hex0
        rw [g.mg, hy0] at m1
        cases m1
        exact me_xf m5 (m7 _ (mem_free hf)) hz hfl hex hv rfl
      · exact pe_bad
    · exact pe_bad
  · exact pe_bad
theorem so_I (h : Sound r) (g : Good S X C xc) (tg e : Expr) : PI X tg e (canI C (stI r S xc tg e)) := by
  unfold stI
  split
  · split
    · rename_i hh
      simp only [Bool.and_eq_true] at hh
      obtain ⟨⟨⟨⟨⟨hc, hg⟩, hd⟩, hf⟩, hn⟩, hr⟩ := hh
      rename_i f _ es _ _
      have ef : f = "range" := beq_iff_eq.mp hr
      subst ef
      split
      · split
        · exact mi_range1 (fun ta ha => pi_range1 (g.gl_of hg) (g.gl.free _ (mem_free hf)) ha (star_cons (by assumption))) (by assumption) (h.E g)
        · exact pi_bad
      · split
        · rename_i hn2
          rw [Bool.and_eq_true] at hn2
          exact mi_range2 (fun ta ha => pi_range2 (g.gl_of hg) (g.gl.free _ (mem_free hf)) ha (by rw [star_cons hn2.1, star_cons hn2.2]; rfl) (star_cons hn2.2)) hn2.1 hn2.2 (h.E g) (h.E g)
        · exact pi_bad
      · exact pi_bad
    · split
      · rename_i hh
        simp only [Bool.and_eq_true] at hh
        obtain ⟨⟨⟨⟨⟨hc, hg⟩, hd⟩, hf⟩, hn⟩, hr⟩ := hh
        rename_i f _ _ _ _ _ _
        have ef : f = "enumerate" := beq_iff_eq.mp hr
        subst ef
        split
        · split
          · split
            · exact mi_enumP g.K (g.gl_of hg) (g.gl.free _ (mem_free hf)) (by assumption) (h.E g)
            · exact pi_bad
          · exact pi_bad
        · exact pi_bad
      · exact mi_val g.K (so_call h g)
  · exact mi_val g.K (h.E g)
theorem asg_sub {o i : Expr} {pos : Pos} {env : Env} (hp : plainIx i = true) (v : Value) : assign (.Subscript o i pos) env v = (do
      let ov ← holding [v] (eval o env)
      let iv ← holding [v, ov] (eval i env)
      standAt pos
      holding [v, ov, iv] (setItem ov iv v)
      release [v, ov, iv] []) := by
  cases i with
  | Slice _ _ _ _ => cases hp
  | _ => rfl
theorem aug_sub {i : Expr} (hp : plainIx i = true) (ov iv new : Value) : augStore i ov iv new = (do holding [new, ov, iv] (setItem ov iv new); release [new, ov, iv] []; pure .next) := by
  cases i with
  | Slice _ _ _ _ => cases hp
  | _ => rfl
theorem so_G (h : Sound r) (g : Good S X C xc) (e : Expr) : PG X e (canG C (rho S) (stG r S xc e)) := by
  unfold stG
  split
  · split
    · obtain ⟨h1, h2, h3, h4⟩ := g.write (by assumption)
      exact mg_name (pg_name (by rw [g.N]; exact g.nd) (by rw [g.N]; exact h1) h2 h3) h4
    · exact pg_bad
  · split
    · rename_i hh
      rw [Bool.and_eq_true] at hh
      exact mg_tup (g.calm hh.1).1 hh.2 g.K (so_Gs h g _)
    · exact pg_bad
  · split
    · rename_i k hk hp
      obtain ⟨x, p, rfl, hv⟩ := g.name hk
      exact mg_ix (rho_ok S) (fun ti hti => pg_sub hv hti set_list (ha := asg_sub hp)) (h.E g)
    · exact pg_bad
  · exact pg_bad

theorem rho_none (h : S.own = none) : rho S = anySt := by
  unfold rho
  rw [h]
theorem loc_k {x : Str} (g : Good S X C xc) (h : isLocK S.sc x = true) : X.env.scope.names.lookup x = some .local := by
  unfold isLocK at h
  rw [g.sc]
  split at h
  · assumption
  · cases h
theorem pair_swap {x y : Str} {px py : Pos} {kt k2 : Nat} {pt pt2 : Pos} {a b : Expr} {env : Env} (hk : env.scope.kind = .function) (hl : (px.line == py.line) = true) (hxy : (x == y) = false) (ha : notStar a = true) (hb : notStar b = true) (hf : [a, b].all (foldedForSure 8) = false) (hcn : [a, b].all (constantsAlone 8) = false)
    (hx : env.scope.names.lookup x = some .local) (hy : env.scope.names.lookup y = some .local) : swappedStores [.Tuple [.Name x px, .Name y py] kt pt] (.Tuple [a, b] k2 pt2) env = pure (some [x, y]) := by
  have kx : env.kindOf x = some .local := hx
  have ky : env.kindOf y = some .local := hy
  have hb1 : env.blockKind = .function := by unfold Env.blockKind; rw [hk]; rfl
  have ed : [x, y].eraseDups.length = 2 := by
    have hyx : (y == x) = false := by rw [beq_eq_false_iff_ne] at hxy ⊢; exact Ne.symm hxy
    simp [List.eraseDups_cons, hxy, hyx]
  have hl2 : (py.line == px.line) = true := by rw [beq_iff_eq] at hl ⊢; exact hl.symm
  unfold swappedStores
  simp only [hb1, hf, hcn, List.length_cons, List.length_nil, List.head?_cons, List.filterMap_cons, List.filterMap_nil, kx, ky, Expr.pos, hl2, Option.map_some, Option.getD_some]
  simp only [List.any_cons, List.any_nil]
  simp [ed]
  rintro (q | q)
  · split at q
    · cases ha
    · cases q
  · split at q
    · cases hb
    · cases q
theorem so_setLc (h : Sound r) (g : Good S X C xc) {x : Str} {px pos spos : Pos} {i : Nat} {elt tg iter : Expr} {ifs : List Expr} {sc : Scope} (hi : slotW S x = some i) : PS X (.Assign [.Name x px] (.ListComp elt [⟨tg, iter, ifs, 0⟩] sc pos) spos) (canS C (sAsg (stLc r S xc elt tg iter ifs sc) (gP i))) := by
  obtain ⟨h1, h2, h3, h4⟩ := g.write hi
  have hN : X.N.Nodup := by rw [g.N]; exact g.nd
  have e : swapsWith (.ListComp elt [⟨tg, iter, ifs, 0⟩] sc pos) (some (.Name x px)) spos.line X.env = pure (X.env.blockKind == .function && X.env.kindOf x == some .local && px.line == pos.line && !(sc.names.any fun (n, k) => n == x && (k == .local || k == .cell))) := rfl
  cases hb : (X.env.blockKind == .function && X.env.kindOf x == some .local && px.line == pos.line && !(sc.names.any fun (n, k) => n == x && (k == .local || k == .cell))) with
  | false => exact ms_set (fun te hte => ps_set hN (by rw [g.N]; exact h1) h2 hte (by rw [e, hb]) h3) (so_lc h g)
  | true =>
    rw [hb] at e
    simp only [Bool.and_eq_true, beq_iff_eq] at hb
    unfold stLc
    split
    · exact PL.S.up ps_never fun Dn σ H ts vs e Q R h k => h.elim
    rename_i hh
    simp only [Bool.and_eq_true] at hh
    obtain ⟨⟨hc, hk⟩, hs⟩ := hh
    have B := fun s H Cl cl fp => g.blk hc sc (ownOf S.N sc.names) s H Cl cl fp
    refine PL.S.up (ps_setLc (own := ownOf S.N sc.names) (g.calm hc).1 hN (by rw [g.N]; exact h1) hb.1.1.2 e (h.I g) (blkOk_by (by rw [g.N, g.sc]; exact hk)) (fun s H Cl cl fp => h.G (B s H Cl cl fp)) (fun s H Cl cl fp => ifs_ok h (B s H Cl cl fp) ifs) (fun s H Cl cl fp => h.E (B s H Cl cl fp)) (fold_no hs)) fun Dn σ H ts vs e Q R w k => ?_
    exact lc_can (useE R w fun sv e' v H' ⟨S, R'⟩ ⟨_, h'⟩ => k.nx _ _ H' ⟨S, R'.store⟩ h')
theorem swapped_no {tg e : Expr} {env : Env} (h : noSwap tg e = true) : swappedStores [tg] e env = pure none := by
  cases tg with
  | Tuple _ _ _ => cases e with
    | Tuple _ _ _ => cases h
    | _ => rfl
  | List _ _ => cases e with
    | Tuple _ _ _ => cases h
    | _ => rfl
  | _ => rfl
theorem asg_each {tg : Expr} {env : Env} (h : notStar tg = true) : (assignEach [tg] env).map (·.2) = [assign tg env] := by
  cases tg with
  | Starred _ _ => cases h
  | _ => rfl
theorem pairW_ok {tg e a b : Expr} {x y : Str} (h : pairW tg e = some (x, y, a, b)) : ∃ px py kt pt k2 pt2, tg = .Tuple [.Name x px, .Name y py] kt pt ∧ e = .Tuple [a, b] k2 pt2 ∧ (px.line == py.line) = true ∧ (x == y) = false ∧ notStar a = true ∧ notStar b = true ∧ [a, b].all (foldedForSure 8) = false ∧ [a, b].all (constantsAlone 8) = false := by
  unfold pairW at h
  split at h
  · split at h
    · rename_i hh
      cases h
      simp only [Bool.and_eq_true, Bool.not_eq_true'] at hh
      obtain ⟨⟨⟨⟨⟨h1, h2⟩, h3⟩, h4⟩, h5⟩, h6⟩ := hh
      exact ⟨_, _, _, _, _, _, rfl, rfl, h1, h2, h3, h4, h5, h6⟩
    · cases h
  · cases h
theorem Good.tr (g : Good S X C xc) (ho : S.own = none) (hc : S.calm = true) {C' : Cfg} {xc' : XC} {pn : List (Addr × Obj)} {xe : Value → Shared → Prop} (e1 : C'.K = C.K) (e2 : C'.mg = C.mg) (e3 : C'.ex = C.ex) (tk : Takes (X.tr pn xe) (canX C' xc')) (po : PassesOwn (model X.prog X.w) X.A X.env xe) : Good S (X.tr pn xe) C' xc' where
  gl := g.gl
  K := g.K.trans e1.symm
  mg := g.mg.trans e2.symm
  N := g.N
  nd := g.nd
  sc := g.sc
  calm := g.calm
  takes := tk
  po := po
  hu := g.hu
  st := g.st
  fn := g.fn
  exn := fun h => e3.trans (g.exn h)
  sui := fun h => by rw [hc] at h; cases h
theorem Good.suite (g : Good S X C xc) (ho : S.own = none) {C' : Cfg} {a : Addr} {oe : Obj} {pn : List (Addr × Obj)} {y c : Str} {b : Bool} {cl dd : Addr} (e1 : C'.K = C.K) (e2 : C'.mg = C.mg) (e3 : C'.ex = some (a, .ref cl, some dd)) (hz : Zc (.ref cl) (some dd) oe) (hf : ∃ vs, oe.data = .fields vs) (hy : C.mg y = some (.ref cl)) (hb : S.exm.lookup (y, c) = some b) :
    Good { S with calm := false } (X.suite a ((a, oe) :: pn)) C' xno where
  gl := ⟨g.gl.fn, g.gl.con, g.gl.err, g.gl.exm, g.gl.free⟩
  K := g.K.trans e1.symm
  mg := g.mg.trans e2.symm
  N := g.N
  nd := g.nd
  sc := g.sc
  calm := fun h => by cases h
  takes := takes_no
  po := PassesOwn.never
  hu := g.hu
  st := fun _ h => by cases h
  fn := g.fn
  exn := fun h => by cases h
  sui := fun _ => ⟨a, oe, X, pn, cl, dd, y, c, b, rfl, e3, hz, hf, by rw [e2]; exact hy, hb⟩
theorem so_S (h : Sound r) (g : Good S X C xc) (st : Stmt) : PS X st (canS C (stS r S xc st)) := by
  unfold stS
  split
  · exact ms_pass
  · exact ms_break
  · exact ms_continue
  · split
    · exact PL.S.up ps_doc fun Dn σ H ts vs e Q R h k => k.nx e σ H R h
    · split
      · exact ms_expr (fun te hte => ps_expr hte (swap_no0 (by assumption))) (h.E g)
      · exact ps_bad
  · split
    · exact ms_retN
    · split
      · obtain ⟨x, p, rfl, hv⟩ := g.name (by assumption)
        exact ms_ret (me_move hv)
      · exact ms_ret (h.E g)
  · exact ms_if (h.T g) (so_B h g _) (so_B h g _)
  · split
    · rename_i hc ho
      have hca := (g.calm hc).1
      split
      · split
        · rename_i i hi
          obtain ⟨h1, h2, h3, h4⟩ := g.write hi
          have hN : X.N.Nodup := by rw [g.N]; exact g.nd
          split
          · exact so_setLc h g hi
          · split
            · exact ms_set (fun te hte => ps_set hN (by rw [g.N]; exact h1) h2 hte (swap_no (by assumption)) h3) (h.E g)
            · exact ps_bad
        · exact ps_bad
      · split
        · exact ps_bad
        rename_i hh
        rw [Bool.and_eq_true] at hh
        split
        · rename_i hns
          refine ms_asg (fun te hte => ps_asg hte (h.G g) (swap_no hh.1) (swapped_no hns) (asg_each hh.2)) (by rw [rho_none ho]) (h.E g)
        · split
          · rename_i x y a b hp
            obtain ⟨px, py, kt, pt, k2, pt2, rfl, rfl, p1, p2, p3, p4, p5, p6⟩ := pairW_ok hp
            split
            · rename_i i j hk hi hj
              simp only [Bool.and_eq_true] at hk
              obtain ⟨⟨k1, k2'⟩, k3⟩ := hk
              split
              · exact ps_bad
              · rename_i hij
                have hij : i ≠ j := by simpa using hij
                obtain ⟨h1, h2, h3, h4⟩ := g.write hi
                obtain ⟨h1', h2', h3', h4'⟩ := g.write hj
                have kf : X.env.scope.kind = .function := by
                  unfold kindFn at k1
                  rw [g.sc]
                  split at k1
                  · assumption
                  · cases k1
                have hx := loc_k g k2'
                have hy := loc_k g k3
                exact ms_par (fun ta hta => ps_par hca (by rw [g.N]; exact g.nd) (by rw [g.N]; exact h1) (by rw [g.N]; exact h1') hij hx hy hta (pair_swap kf p1 p2 p3 p4 p5 p6 hx hy)) hij (so_A h g _)
            · exact ps_bad
          · exact ps_bad
    · exact ps_bad
  · split
    · split
      · rename_i k hk hp
        obtain ⟨x, p, rfl, hv⟩ := g.name hk
        exact ms_augIx (fun ti te hti hte => ps_augS hv hti get_list hte ip_add set_list (aug_sub hp)) (h.E g) (h.E g)
      · exact ps_bad
    · exact ps_bad
  · split
    · rename_i hc ho hs
      exact ms_for (fun wi gg tb hwi hg hb => ps_for g.po (g.calm hc).1 hwi hg hb (fold_no hs)) (h.I g) (by rw [← rho_none ho]; exact h.G g) (so_B h g _)
    · exact ps_bad
  · split
    · exact ms_while g.po (h.T g) (so_B h g _)
    · exact ps_bad
  · split
    · rename_i f pf es pos hc ho
      split
      · rename_i x fs hh hl
        simp only [Bool.and_eq_true] at hh
        obtain ⟨⟨h1, h2⟩, h3⟩ := hh
        split
        · exact ps_bad
        · rename_i es' hne
          cases es with
          | nil => exact absurd rfl hne
          | cons e es =>
            have hn2 : notStar e = true ∧ es.all notStar = true := by simpa using h3
            obtain ⟨hsup, Ca, fI, qual, params, scope, text, kk, p0, p1, p2, p3, p4, p5, rows, m1, m2, m3, m4, m5, m6⟩ := g.gl.err _ _ _ hl
            obtain ⟨hca, hr⟩ := g.calm hc
            exact ms_raise hca g.takes (by rw [← g.mg]; exact m1) (fun ta hta => pmk_x m2 m3 m4 m5 m6 (List.cons_ne_nil _ _) hr (g.gl_of h1) m1 hsup (dbg_ok h2).1 hta hn2.1 hn2.2) (so_A h g _)
      · exact ps_bad
    · exact ps_bad
  · split
    · rename_i c pc n s0 suite ph hc ho
      split
      · rename_i i hh hi
        simp only [Bool.and_eq_true] at hh
        obtain ⟨⟨⟨h1, h2⟩, h3⟩, h4⟩ := hh
        obtain ⟨b0, hb0⟩ := Option.isSome_iff_exists.mp h4
        obtain ⟨Cy, Cc, k1, k2, _⟩ := g.gl.exm _ _ _ hb0
        obtain ⟨w1, w2, w3, w4⟩ := g.write hi
        refine ms_tryAs (c := Cc) g.K (g.exn hc) (fun x b cl hx hm => ?_) (ps_try_as (ts := tTryS C (fun y => S.exm.lookup (y, c)) (stB r { S with calm := false } xno (s0 :: suite))) (tb := fun W => tTryB C (fun xc' => stB r S xc' _) W) (g.st ho hc).1 (g.st ho hc).2 (by rw [g.N]; exact g.nd) (by rw [g.N]; exact w1) (loc_k g h3) ⟨g.gl_of h1, (dbg_ok h2).1, .inl k2⟩ g.takes (fun W pn xe tk po => ?_) (fun a oe cls d pn hz hf => ?_))
        · obtain ⟨Cy', Cc', q1, q2, q3, _⟩ := g.gl.exm _ _ _ hx
          rw [g.mg, hm] at q1
          cases q1
          rw [k2] at q2
          cases q2
          exact q3
        · exact try_body tk fun C' xc' e1 e2 e3 tk' => so_B h (g.tr ho hc e1 e2 e3 tk' po) _
        · exact try_suite hz hf fun C' x cl dd e1 e2 e3 e4 ⟨b, e5⟩ hz' => so_B h (g.suite ho e1 e2 e3 hz' hf e4 e5) _
      · exact ps_bad
    · exact ps_bad
  · exact ps_bad
theorem sound_step (h : Sound r) : Sound r.step := ⟨fun g => so_E h g _, fun g => so_V h g _, fun g => so_T h g _, fun g => so_I h g _ _, fun g => so_G h g _, fun g => so_S h g _⟩
theorem sound : ∀ n, Sound (sem n)
  | 0 => sound_bad
  | n + 1 => sound_step (sound n)
end
end PL
set_option Elab.async false
set_option linter.all false
set_option maxRecDepth 100000
set_option maxHeartbeats 4000000
/-! PL15: defs by their readings; the head. -/
namespace PL
open PySem PySem.Spec PyProof.Rows L2 PLX

/-- a def of the module keeps the promise of its reading -/
def Has (P : Program) (w : World) (K : PySem.W.Frag) (mg : Str → Option Value) (base : Heap) (lev : Nat) (x : Str) (np nloc : Nat) (ref : Bool) (p : XC → pS) : Prop :=
  ∃ f fd ps, mg x = some (.ref f) ∧ PySem.W.keepIn K (.ref f) = true ∧ Binds K fd ps [] ∧ FnOk P w K mg base (L2.CX P w) lev f fd ps (l2sp K mg (semFn nloc np ref p))
def Con (K : PySem.W.Frag) (mg : Str → Option Value) (x : Str) (d : D) : Prop := ∃ u v, mg x = some u ∧ RelV v u ∧ ∀ S, Rp K mg S d v
structure GOk (P : Program) (w : World) (K : PySem.W.Frag) (mg : Str → Option Value) (base : Heap) (lev : Nat) (G : List (Str × GE)) : Prop where
  fn : ∀ x np nloc ref p, G.lookup x = some (.fn np nloc ref p) → Has P w K mg base lev x np nloc ref p
  con : ∀ x d, G.lookup x = some (.con d) → Con K mg x d
section
variable {P : Program} {w : World} {K : PySem.W.Frag} {mg : Str → Option Value} {base : Heap} {lev : Nat} {G : List (Str × GE)}
theorem gok_nil : GOk P w K mg base lev [] := ⟨fun _ _ _ _ _ h => (by cases h), fun _ _ h => (by cases h)⟩
theorem gok_fn {x : Str} {np nloc j : Nat} {ref : Bool} {p : XC → pS} (h : Has P w K mg base j x np nloc ref p) (hj : j ≤ lev) (t : GOk P w K mg base lev G) : GOk P w K mg base lev ((x, .fn np nloc ref p) :: G) where
  fn := fun y a b c q e => by
    rw [List.lookup_cons] at e
    split at e
    · rename_i z
      cases e
      obtain ⟨f, fd, ps, h1, h2, h3, h4⟩ := h
      rw [beq_iff_eq.mp z]
      exact ⟨f, fd, ps, h1, h2, h3, h4.mono hj⟩
    · exact t.fn y a b c q e
  con := fun y d e => by
    rw [List.lookup_cons] at e
    split at e
    · cases e
    · exact t.con y d e
theorem gok_con {x : Str} {d : D} (h : Con K mg x d) (t : GOk P w K mg base lev G) : GOk P w K mg base lev ((x, .con d) :: G) where
  fn := fun y a b c q e => by
    rw [List.lookup_cons] at e
    split at e
    · cases e
    · exact t.fn y a b c q e
  con := fun y d e => by
    rw [List.lookup_cons] at e
    split at e
    · rename_i z
      cases e
      rw [beq_iff_eq.mp z]
      exact h
    · exact t.con y d e
/-- what all defs share -/
structure Com (S : SC) (P : Program) (K : PySem.W.Frag) (mg : Str → Option Value) : Prop where
  err : ∀ c f fs, S.errs.lookup c = some (f :: fs) → mg "super" = none ∧ ∃ (C fI : Addr) (qual : Str) (params : Arguments) (scope : Scope) (text : Str) (kk : Nat) (p0 p1 p2 p3 p4 p5 : Pos) (rows : List Stmt), mg c = some (.ref C) ∧ (p2.endLine == p3.line) = true ∧
    OwnC P K C fI qual params (supRow text kk p0 p1 p2 p3 p4 p5 :: rows) scope (f :: fs) ∧ OwnS P params scope (f :: fs) ∧ FldRows (f :: fs) rows ∧ (f :: fs).length ≤ 900
  exm : ∀ y c b, S.exm.lookup (y, c) = some b → ∃ Cy Cc, mg y = some (.ref Cy) ∧ mg c = some (.ref Cc) ∧ PySem.W.exmOne K (.ref Cy) (.ref Cc) = some b ∧ PySem.W.kitOne K (.ref Cy) (.ref Cc) = some b ∧ XfC K Cy ∧ ExcC K Cy ∧ ∀ f ∈ S.flds, PySem.W.findIn K (.ref Cy) f = some none
  free : ∀ x ∈ S.free, mg x = none
theorem glob_of {S : SC} (c : Com S P K mg) (g : GOk P w K mg base S.lev S.G) : Glob S P w K mg base := ⟨g.fn, g.con, c.err, c.exm, c.free⟩

theorem good_cx {x qual : Str} {params : Arguments} {body : List Stmt} {S : SC} {f : Addr} {cdv : Value} {A : Around} {outer : List Env} {s : Shared} {H : Hp} {E : XK} {C : Cfg} {xc : XC} (gl : Glob S P w K mg base) (hnd : S.N.Nodup) (hc : S.calm = true) (ho : S.own = none)
    (e1 : C.K = K) (e2 : C.mg = mg) (e3 : C.ex = none) (hr : Room S.lev (A.deeper (envOfC qual S.sc s.heap.objs.size f cdv))) (hE : ∀ cls d σ H', canX C xc cls d σ H' → E cls d H') :
    Good S (cxOf (L2.CX P w) P w K mg base S.N qual S.sc f cdv A outer s H E) C xc where
  gl := gl
  K := e1.symm
  mg := e2.symm
  N := rfl
  nd := hnd
  sc := rfl
  calm := fun _ => ⟨rfl, hr⟩
  takes := (takes_of (E := E) rfl rfl rfl rfl).imp fun cls d σ H h => hE cls d σ H h
  po := passes_of rfl
  hu := hr.units
  st := fun _ _ => ⟨rfl, rfl⟩
  fn := fun _ _ => rfl
  exn := fun _ => e3
  sui := fun h => by rw [hc] at h; cases h
/-- THE RULE for a def -/
theorem has_def {n : Nat} {S : SC} {d : He.DefD} {ps : List Str} {nloc : Nat} {ref : Bool} {p : XC → pS} {x : Str} (hd : ∃ fd, FunD K d.name d.qual d.params d.body d.scope [] [] (He.fAd K d.at_) fd) (hm : mg x = some (.ref (He.fAd K d.at_))) (hsc : S.sc = d.scope) (Sc : FnScope S.N ps S.sc) (hc : S.calm = true) (ho : S.own = none) (hn : ps.length + nloc = S.N.length)
    (hb : ∀ (kV doc pm : Value) (an : Option Addr) (cdv ct : Value) (us : List Value), us.length = ps.length → bindArgs (PySem.W.fnOf d.name d.qual d.params d.body d.scope .none kV doc pm an cdv ct) ⟨us, []⟩ = pure (ps.zip us))
    (hp : ∀ xc, stB (sem n) S xc d.body = p xc) (c : Com S P K mg) (g : GOk P w K mg base S.lev S.G) : Has P w K mg base (S.lev + 1) x ps.length nloc ref p := by
  obtain ⟨fd, F⟩ := hd
  refine ⟨_, fd, ps, hm, F.kp, F.bindsN hb, ?_⟩
  rw [← hsc] at F
  refine fn_def F Sc hn fun cdv A outer s H E C xc e1 e2 e3 hr hE => ?_
  rw [← hp xc]
  exact so_B (sound n) (good_cx (x := x) (params := d.params) (body := d.body) (glob_of c g) Sc.nd hc ho e1 e2 e3 hr hE) d.body

/-- the law's own def: nothing leaves it -/
theorem law_fn {n : Nat} {S : SC} {d : He.DefD} {nloc : Nat} {p : XC → pS} {fd : FuncData} {f : Addr} (F : FunD K d.name d.qual d.params d.body d.scope [] [] f fd) (hsc : S.sc = d.scope) (Sc : FnScope S.N ["script"] S.sc) (hc : S.calm = true) (ho : S.own = none) (hn : 1 + nloc = S.N.length)
    (hp : ∀ xc, stB (sem n) S xc d.body = p xc) (c : Com S P K mg) (g : GOk P w K mg base S.lev S.G) : FnOk P w K mg base (fun _ _ _ _ _ _ => False) (S.lev + 1) f fd ["script"] (fun vs H Q _ => l2sp K mg (semFn nloc 1 false p) vs H Q fun _ _ _ => False) := by
  have F0 : FnOk P w K mg base (L2.CX P w) (S.lev + 1) f fd ["script"] (l2sp K mg (semFn nloc 1 false p)) := by
    rw [← hsc] at F
    refine fn_def F Sc hn fun cdv A outer s H E C xc e1 e2 e3 hr hE => ?_
    rw [← hp xc]
    exact so_B (sound n) (good_cx (x := "law") (params := d.params) (body := d.body) (glob_of c g) Sc.nd hc ho e1 e2 e3 hr hE) d.body
  refine ⟨fun vs H Q E h => F0.len vs H Q _ h, fun A outer s H args us vs Q E hr he hb hv hs => ?_⟩
  refine codeAny_mono (F0.run A outer s H args us vs Q _ hr he hb hv hs) fun r s' h => ?_
  cases r with
  | error e =>
    obtain ⟨_, _, _, _, _, _, _, _, _, _, _, _, z⟩ := h
    exact z.elim
  | ok fl => cases fl <;> exact h

/-! ### constants -/
mutual
def conB (K : PySem.W.Frag) : Value → D → Bool
  | .none, .non => true
  | .bool b, .bl c => b == c
  | .int i _, .int j => decide (i = j)
  | .str x _, .str y => decide (x = y)
  | .ref a, .tup ds => (match K.lookup a with
    | some ⟨.type c, _, .seq its _, _⟩ => decide (c = "tuple") && (decide (its.size ≤ sizeLine) && conL K its.toList ds)
    | _ => false)
  | _, _ => false
def conL (K : PySem.W.Frag) : List Value → List D → Bool
  | [], [] => true
  | u :: us, d :: ds => conB K u d && conL K us ds
  | _, _ => false
end
mutual
theorem conB_ok : ∀ (d : D) {u : Value}, conB K u d = true → ∃ v, RelV v u ∧ ∀ S, Rp K mg S d v
  | .non, u, h => by cases u <;> first | exact ⟨.non, rfl, fun _ => .non⟩ | cases h
  | .bl c, u, h => by
    cases u with
    | bool b =>
      have e : b = c := by unfold conB at h; exact beq_iff_eq.mp h
      subst e
      exact ⟨.bl b, rfl, fun _ => .bl b⟩
    | _ => cases h
  | .int j, u, h => by
    cases u with
    | int i t =>
      have e : i = j := by unfold conB at h; exact of_decide_eq_true h
      subst e
      exact ⟨.int i, ⟨t, rfl⟩, fun _ => .int i⟩
    | _ => cases h
  | .str j, u, h => by
    cases u with
    | str i t =>
      have e : i = j := by unfold conB at h; exact of_decide_eq_true h
      subst e
      exact ⟨.str i, ⟨t, rfl⟩, fun _ => .str i⟩
    | _ => cases h
  | .tup ds, u, h => by
    cases u with
    | ref a =>
      unfold conB at h
      split at h
      · rename_i c od its n sl q
        rw [Bool.and_eq_true, Bool.and_eq_true] at h
        obtain ⟨h1, h2, h3⟩ := h
        obtain ⟨vs, r1, r2⟩ := conL_ok ds h3
        exact ⟨.ref a, rfl, fun S => .tup (.inr ⟨_, its, n, q, congrArg Value.type (of_decide_eq_true h1), rfl, of_decide_eq_true h2, r1⟩) (r2 S)⟩
      · cases h
    | _ => cases h
  | .lst _, u, h => by cases u <;> cases h
  | .lsq _, u, h => by cases u <;> cases h
  | .obj _ _, u, h => by cases u <;> cases h
theorem conL_ok : ∀ (ds : List D) {us : List Value}, conL K us ds = true → ∃ vs, Vals vs us ∧ ∀ S, RpL K mg S ds vs
  | [], us, h => by
    cases us with
    | nil => exact ⟨[], .nil, fun _ => .nil⟩
    | cons => cases h
  | d :: ds, us, h => by
    cases us with
    | nil => cases h
    | cons u us =>
      unfold conL at h
      rw [Bool.and_eq_true] at h
      obtain ⟨v, r1, r2⟩ := conB_ok d h.1
      obtain ⟨vs, r3, r4⟩ := conL_ok ds h.2
      exact ⟨v :: vs, .cons r1 r3, fun S => .cons (r2 S) (r4 S)⟩
end
/-- a module's constant -/
def cnB (K : PySem.W.Frag) (p : Str × D) : Bool := match PySem.W.nsIn K mainGlobals p.1 with
  | some (some u) => conB K u p.2
  | _ => false
theorem cn_ok {h : Heap} (X : K.In h) (G : h.Ns mainGlobals mg) {x : Str} {d : D} (c : cnB K (x, d) = true) : Con K mg x d := by
  unfold cnB at c
  dsimp only at c
  split at c
  · rename_i u q
    obtain ⟨v, r1, r2⟩ := conB_ok (mg := mg) d c
    exact ⟨u, v, PySem.W.mg_of X G q, r1, r2⟩
  · cases c

/-! ### own exceptions -/
structure OwD where
  name : Str
  qual : Str
  params : Arguments
  body : List Stmt
  scope : Scope
  fs : List Str
abbrev FnY : Type := Option (Str × Str × Arguments × FuncBody × Scope × Addr × List Str × Addr)
def fnY (K : PySem.W.Frag) (x : Str) : FnY := match K.lookup (He.ma K (He.ga K x) "__init__") with
  | some ⟨_, _, .func fd, _⟩ => some (fd.name, fd.qualname, fd.params, fd.body, fd.scope, fd.globals, fd.closure.map (·.1), fd.builtins)
  | _ => none
def OwD.val (o : OwD) : FnY := some ("__init__", o.qual, o.params, .stmts o.body, o.scope, mainGlobals, ["__class__"], builtinsNs)
def clsB (K : PySem.W.Frag) (C : Addr) : Bool := match K.lookup C with
  | some ⟨.type t, _, .cls cd, sl⟩ => (match cd.mro, sl.toList with
    | .ref C' :: bm, [_, _, _, _, some (.builtin n), _] => decide (t = "type") && (C' == C && (decide (n = "ValueError.__new__") && (!cd.hasDel && (cd.hasDict && PySem.HandSPX.refsVE bm))))
    | _, _ => false)
  | _ => false
theorem clsB_ok {C : Addr} (h : clsB K C = true) : ∃ nm q N bs bm sn sub ab col dd k0 k1 k2 k3 k5, K.lookup C = some (excClassObj nm q C N bs bm true sn sub ab col dd k0 k1 k2 k3 k5 "ValueError.__new__") ∧ PySem.HandSPX.refsVE bm = true := by
  unfold clsB at h
  split at h
  · rename_i t dd cd sl ho
    split at h
    · rename_i C' bm k0 k1 k2 k3 n k5 hm hs
      simp only [Bool.and_eq_true, beq_iff_eq, Bool.not_eq_true', decide_eq_true_eq] at h
      obtain ⟨e1, e2, e3, hdel, hdct, hv⟩ := h
      subst e1 e2 e3
      obtain ⟨nm, bs, mro, ns, qn, hd, sn, sub, ab, col, del⟩ := cd
      dsimp only at hm hdel hdct
      subst hm hdel hdct
      have hsl : sl = #[k0, k1, k2, k3, some (.builtin "ValueError.__new__"), k5] := by
        obtain ⟨l⟩ := sl
        simp only at hs
        rw [hs]
      subst hsl
      exact ⟨nm, qn, ns, bs, bm, sn, sub, ab, col, dd, k0, k1, k2, k3, k5, ho, hv⟩
    · cases h
  · cases h
def cellB (K : PySem.W.Frag) (c C : Addr) : Bool := match K.lookup c with
  | some ⟨_, _, .cell (some (.ref D)), _⟩ => decide (D = C)
  | _ => false
def fileB (K : PySem.W.Frag) (c : Addr) (file : Str) : Bool := match K.lookup c with
  | some ⟨_, _, .fields vs, _⟩ => (match (vs[2]? : Option Value) with
    | some (Value.str f _) => file == f
    | _ => false)
  | _ => false
def iniB (K : PySem.W.Frag) (fI C : Addr) (qual file : Str) : Bool := match K.lookup fI with
  | some ⟨_, _, .func fd, _⟩ => (match fd.code, fd.closure, fd.defaults with
    | .ref cda, [(_, cc)], .none => PySem.W.codeIn K (.ref cda) qual && (fileB K cda file && cellB K cc C)
    | _, _, _ => false)
  | _ => false
def OwD.ok (K : PySem.W.Frag) (file : Str) (o : OwD) : Bool := (He.eqO (PySem.W.nsIn K mainGlobals o.name) (some (some (.ref (He.ga K o.name)))) && He.eqO (PySem.W.nsIn K mainGlobals "super") (some none)) &&
  (clsB K (He.ga K o.name) && (He.eqO (PySem.W.findIn K (.ref (He.ga K o.name)) "__setattr__") (some (some (.builtin "object.__setattr__"))) && (decide (PySem.W.subIn K (.ref (He.ga K o.name)) (.type "BaseException") = some true) && (decide (PySem.W.typeIn K (.ref (He.ga K o.name)) = some (.type "type")) && (PySem.W.keepIn K (.ref (He.ga K o.name)) &&
  ((o.fs.all fun f => He.eqO (PySem.W.findIn K (.ref (He.ga K o.name)) f) (some none)) && (He.eqO (PySem.W.findIn K (.ref (He.ga K o.name)) "__init__") (some (some (.ref (He.ma K (He.ga K o.name) "__init__")))) && (decide (PySem.W.typeIn K (.ref (He.ma K (He.ga K o.name) "__init__")) = some (.type "function")) && (iniB K (He.ma K (He.ga K o.name) "__init__") (He.ga K o.name) o.qual file &&
  (decide (PySem.W.ks_superIn K (He.ga K o.name) (He.ga K o.name) "__init__" = some (some (.builtin "ValueError.__init__"))) && (decide (PySem.W.mroIn K (He.ga K o.name) (.ref (He.ga K o.name)) = some true) && (decide (PySem.W.subIn K (.ref (He.ga K o.name)) (.type "ValueError") = some true) && He.eqO (PySem.W.nsIn K cStatics "thirdparty.any") (some none)))))))))))))
theorem OwD.own {o : OwD} {h : Heap} (X : K.In h) (G : h.Ns mainGlobals mg) (e : fnY K o.name = o.val) (c : o.ok K P.main.file = true) : mg "super" = none ∧ ∃ C fI, mg o.name = some (.ref C) ∧ OwnC P K C fI o.qual o.params o.body o.scope o.fs := by
  unfold OwD.ok at c
  obtain ⟨c0, c⟩ := He.ba c
  obtain ⟨c1, c2⟩ := He.ba c0
  obtain ⟨c3, c⟩ := He.ba c
  obtain ⟨c4, c⟩ := He.ba c
  obtain ⟨c5, c⟩ := He.ba c
  obtain ⟨c6, c⟩ := He.ba c
  obtain ⟨c7, c⟩ := He.ba c
  obtain ⟨c8, c⟩ := He.ba c
  obtain ⟨c9, c⟩ := He.ba c
  obtain ⟨c10, c⟩ := He.ba c
  obtain ⟨c11, c⟩ := He.ba c
  obtain ⟨c12, c⟩ := He.ba c
  obtain ⟨c13, c⟩ := He.ba c
  obtain ⟨c14, c15⟩ := He.ba c
  have fn : ∃ (oc kV doc pm ct : Value) (od an : Option Addr) (osl : Array (Option Value)) (cc cda : Addr), K.lookup (He.ma K (He.ga K o.name) "__init__") = some ⟨oc, od, .func (PySem.W.fnX "__init__" o.qual o.params o.body o.scope [("__class__", cc)] .none kV doc pm an (.ref cda) ct), osl⟩ ∧ PySem.W.codeIn K (.ref cda) o.qual = true ∧
    (∃ (cl : Value) (cd : Option Addr) (vs : Array Value) (sl : Array (Option Value)) (file : Str) (tf : Tok), K.lookup cda = some ⟨cl, cd, .fields vs, sl⟩ ∧ vs[2]? = some (.str file tf) ∧ ((P.main.file : Str) == file) = true) ∧
    ∃ (cl : Value) (cd : Option Addr) (sl : Array (Option Value)), K.lookup cc = some ⟨cl, cd, .cell (some (.ref (He.ga K o.name))), sl⟩ := by
    unfold iniB at c11
    unfold fnY at e
    split at c11
    · rename_i oc od fd osl q
      rw [q] at e
      obtain ⟨n1, n2, n3, n4, n5, n6, n7, n8, n9, n10, n11, n12, n13, n14, n15⟩ := fd
      have e2 : (some (n1, n2, n3, n4, n5, n6, n7.map (·.1), n15) : FnY) = some (("__init__" : Str), o.qual, o.params, FuncBody.stmts o.body, o.scope, mainGlobals, [("__class__" : Str)], builtinsNs) := e
      simp only [Option.some.injEq, Prod.mk.injEq] at e2
      obtain ⟨h1, h2, h3, h4, h5, h6, h7, h8⟩ := e2
      dsimp only at c11
      split at c11
      · rename_i cda y cc
        rw [Bool.and_eq_true, Bool.and_eq_true] at c11
        obtain ⟨k1, k2, k3⟩ := c11
        have h7 : [y] = [("__class__" : Str)] := h7
        cases h7
        subst h1 h2 h3 h4 h5 h6 h8
        refine ⟨oc, n9, n10, n11, n14, od, n12, osl, cc, cda, q, k1, ?_, ?_⟩
        · unfold fileB at k2
          split at k2
          · split at k2
            · exact ⟨_, _, _, _, _, _, by assumption, by assumption, k2⟩
            · cases k2
          · cases k2
        · unfold cellB at k3
          split at k3
          · have z := of_decide_eq_true k3
            subst z
            exact ⟨_, _, _, by assumption⟩
          · cases k3
      · cases c11
    · cases c11
  exact ⟨PySem.W.mg_none_of X G (He.eqO_ok c2), _, _, PySem.W.mg_of X G (He.eqO_ok c1), ⟨clsB_ok c3, He.eqO_ok c4, of_decide_eq_true c5, of_decide_eq_true c6, c7⟩, fun f hf => He.eqO_ok (List.all_eq_true.mp c8 f hf), He.eqO_ok c9, of_decide_eq_true c10, fn,
    of_decide_eq_true c12, of_decide_eq_true c13, of_decide_eq_true c14, He.eqO_ok c15⟩

def exB (K : PySem.W.Frag) (flds : List Str) (q : (Str × Str) × Bool) : Bool := (He.eqO (PySem.W.nsIn K mainGlobals q.1.1) (some (some (.ref (He.ga K q.1.1)))) && He.eqO (PySem.W.nsIn K mainGlobals q.1.2) (some (some (.ref (He.ga K q.1.2))))) &&
  (decide (PySem.W.exmOne K (.ref (He.ga K q.1.1)) (.ref (He.ga K q.1.2)) = some q.2) && (decide (PySem.W.kitOne K (.ref (He.ga K q.1.1)) (.ref (He.ga K q.1.2)) = some q.2) && (xfB K (He.ga K q.1.1) &&
  (He.eqO (PySem.W.findIn K (.ref (He.ga K q.1.1)) "__class__") (some (some (.builtin "object.__class__"))) && (He.eqO (PySem.W.specialIn K (.builtin "object.__class__") "__get__") (some (some (.builtin "getset_descriptor.__get__"))) &&
  (decide (PySem.W.takesIn K (.builtin "object.__class__") = some true) && (decide (PySem.W.mroIn K (He.ga K q.1.1) (.type "object") = some true) && flds.all fun f => He.eqO (PySem.W.findIn K (.ref (He.ga K q.1.1)) f) (some none))))))))
theorem ex_ok {h : Heap} (X : K.In h) (G : h.Ns mainGlobals mg) {flds : List Str} {y c : Str} {b : Bool} (z : exB K flds ((y, c), b) = true) : ∃ Cy Cc, mg y = some (.ref Cy) ∧ mg c = some (.ref Cc) ∧ PySem.W.exmOne K (.ref Cy) (.ref Cc) = some b ∧ PySem.W.kitOne K (.ref Cy) (.ref Cc) = some b ∧ XfC K Cy ∧ ExcC K Cy ∧ ∀ f ∈ flds, PySem.W.findIn K (.ref Cy) f = some none := by
  unfold exB at z
  dsimp only at z
  obtain ⟨z0, z⟩ := He.ba z
  obtain ⟨z1, z2⟩ := He.ba z0
  obtain ⟨z3, z⟩ := He.ba z
  obtain ⟨z4, z⟩ := He.ba z
  obtain ⟨z5, z⟩ := He.ba z
  obtain ⟨z6, z⟩ := He.ba z
  obtain ⟨z7, z⟩ := He.ba z
  obtain ⟨z8, z⟩ := He.ba z
  obtain ⟨z9, z10⟩ := He.ba z
  have xf := xfB_ok z5
  exact ⟨_, _, PySem.W.mg_of X G (He.eqO_ok z1), PySem.W.mg_of X G (He.eqO_ok z2), of_decide_eq_true z3, of_decide_eq_true z4, xf, ⟨xf.ga, xf.gg, xf.exC, xf.hdC, He.eqO_ok z6, He.eqO_ok z7, of_decide_eq_true z8, of_decide_eq_true z9⟩, fun f hf => He.eqO_ok (List.all_eq_true.mp z10 f hf)⟩
end

/-! ### the Hook -/
structure Tb where
  fa : List He.Fa
  fn : List He.DefD
  ow : List OwD
  cn : List (Str × D)
  exm : List ((Str × Str) × Bool)
  flds : List Str
  file : Str
def asX (g : Addr → Option Obj) : Nat → List Addr
  | 0 => [mainGlobals, cStatics]
  | n + 1 => He.growD g (asX g n)
abbrev AlP : Type := Bool × List He.FnW × List FnY
def obsP (T : Tb) (K : PySem.W.Frag) : AlP := ((T.fa.all fun f => f.ok K) && ((T.fn.all fun d => d.ok K) && ((T.ow.all fun o => o.ok K T.file) && ((T.cn.all fun c => cnB K c) && T.exm.all fun q => exB K T.flds q))), T.fn.map fun d => He.fnW K d.at_, T.ow.map fun o => fnY K o.name)
def valP (T : Tb) : AlP := (true, T.fn.map He.DefD.val, T.ow.map OwD.val)
def SaysP (T : Tb) (K : PySem.W.Frag) : Prop := obsP T K = valP T
def obsPG (n : Nat) (T : Tb) (g : Addr → Option Obj) : AlP := obsP T (He.frG g (asX g n))
def hookP (n : Nat) (T : Tb) : PySem.W.Hook where
  α := AlP
  obs := fun s => obsPG n T s.heap.get?
  val := fun _ => valP T
  says := fun _ h => ∃ K : PySem.W.Frag, K.In h ∧ SaysP T K
  of := fun _ _ e => ⟨_, He.frG_in, e⟩
  keeps := fun _ _ _ ⟨K, hK, c⟩ k => ⟨K, PySem.W.Frag.In.keeps hK k, c⟩
theorem obsPG_eq {n : Nat} {T : Tb} {g : Addr → Option Obj} {s : Shared} (h : ∀ a, g a = s.heap.get? a) : obsPG n T g = (hookP n T).obs s := by
  have e : g = s.heap.get? := funext h
  rw [e] <;> rfl
section
variable {T : Tb} {K : PySem.W.Frag} {h : Heap} {mg : Str → Option Value}
theorem SaysP.all (c : SaysP T K) : (T.fa.all fun f => f.ok K) = true ∧ (T.fn.all fun d => d.ok K) = true ∧ (T.ow.all fun o => o.ok K T.file) = true ∧ (T.cn.all fun c => cnB K c) = true ∧ (T.exm.all fun q => exB K T.flds q) = true := by
  have c1 := congrArg (fun z : AlP => z.1) c
  obtain ⟨c2, c3⟩ := He.ba c1
  obtain ⟨c4, c5⟩ := He.ba c3
  obtain ⟨c6, c7⟩ := He.ba c5
  obtain ⟨c8, c9⟩ := He.ba c7
  exact ⟨c2, c4, c6, c8, c9⟩
theorem SaysP.fact (c : SaysP T K) {f : He.Fa} (h : f ∈ T.fa) : f.ok K = true := List.all_eq_true.mp c.all.1 f h
theorem SaysP.def_ (c : SaysP T K) {d : He.DefD} (i : Nat) (hi : T.fn[i]? = some d) (e1 : d.dfl = []) (e2 : d.kwd = []) : ∃ fd, FunD K d.name d.qual d.params d.body d.scope [] [] (He.fAd K d.at_) fd := by
  have e : T.fn.map (fun d => He.fnW K d.at_) = T.fn.map He.DefD.val := congrArg (fun z : AlP => z.2.1) c
  have e3 : (T.fn.map fun d => He.fnW K d.at_)[i]? = (T.fn.map He.DefD.val)[i]? := by rw [e]
  rw [List.getElem?_map, List.getElem?_map, hi] at e3
  obtain ⟨fd, F⟩ := He.DefD.funD (Option.some.inj e3) (List.all_eq_true.mp c.all.2.1 d (List.mem_of_getElem? hi))
  refine ⟨fd, ?_⟩
  have k1 : d.dvs K = [] := by unfold He.DefD.dvs; rw [e1]; rfl
  have k2 : d.kws K = [] := by unfold He.DefD.kws; rw [e2]; rfl
  rw [k1, k2] at F
  exact F
theorem SaysP.con (c : SaysP T K) (X : K.In h) (G : h.Ns mainGlobals mg) {x : Str} {d : D} (i : (x, d) ∈ T.cn) : Con K mg x d := cn_ok X G (List.all_eq_true.mp c.all.2.2.2.1 _ i)
theorem SaysP.ow_ (c : SaysP T K) {P : Program} (X : K.In h) (G : h.Ns mainGlobals mg) {o : OwD} (i : Nat) (hi : T.ow[i]? = some o) (hf : T.file = P.main.file) : mg "super" = none ∧ ∃ C fI, mg o.name = some (.ref C) ∧ OwnC P K C fI o.qual o.params o.body o.scope o.fs := by
  have e : T.ow.map (fun o => fnY K o.name) = T.ow.map OwD.val := congrArg (fun z : AlP => z.2.2) c
  have e3 : (T.ow.map fun o => fnY K o.name)[i]? = (T.ow.map OwD.val)[i]? := by rw [e]
  rw [List.getElem?_map, List.getElem?_map, hi] at e3
  exact OwD.own X G (Option.some.inj e3) (by rw [← hf]; exact List.all_eq_true.mp c.all.2.2.1 o (List.mem_of_getElem? hi))
theorem SaysP.exm_ (c : SaysP T K) (X : K.In h) (G : h.Ns mainGlobals mg) {y z : Str} {b : Bool} (i : T.exm.lookup (y, z) = some b) : ∃ Cy Cc, mg y = some (.ref Cy) ∧ mg z = some (.ref Cc) ∧ PySem.W.exmOne K (.ref Cy) (.ref Cc) = some b ∧ PySem.W.kitOne K (.ref Cy) (.ref Cc) = some b ∧ XfC K Cy ∧ ExcC K Cy ∧ ∀ f ∈ T.flds, PySem.W.findIn K (.ref Cy) f = some none := by
  have key : ∀ {l : List ((Str × Str) × Bool)}, l.lookup (y, z) = some b → ((y, z), b) ∈ l := by
    intro l
    induction l with
    | nil => intro h; cases h
    | cons p l ih =>
      intro h
      obtain ⟨k, v⟩ := p
      rw [List.lookup_cons] at h
      split at h
      · rename_i q
        cases h
        rw [beq_iff_eq.mp q]
        exact List.mem_cons_self
      · exact List.mem_cons_of_mem _ (ih h)
  exact ex_ok X G (List.all_eq_true.mp c.all.2.2.2.2 _ (key i))
/-- the end: a law by its def's reading -/
theorem law_at {nloc : Nat} {p : XC → pS} {n : Nat} (pure : ∀ ns : List Int, ns.length ≤ n → semFn nloc 1 false p none [.lsq (ns.map D.int)] (fun z _ => z = .val (.bl true)) (fun _ _ => False)) :
    ∀ (H : Hp) (a : Addr) (ns : List Int), ns.length ≤ n → Only H → SqL K H a (ns.map V.int) → l2sp K mg (semFn nloc 1 false p) [.ref a] H (fun v _ => v = .bl true) fun _ _ _ => False := fun H a ns hn _ hS => by
  refine ⟨H, none, none, [.lsq (ns.map D.int)], [.ref a], _, _, Le.refl H, rfl, .cons (.lsq hS (RpL.of_ints ns)) .nil, trivial, pure ns hn, fun z m' v H' S' R _ hz => ?_, fun x m' cls d H' S' R _ _ hx => hx⟩
  subst hz
  have t := R.topV
  cases t
  rfl
end
end PL
set_option Elab.async false
set_option linter.all false
set_option maxRecDepth 100000
set_option maxHeartbeats 4000000
/-! PL16: tools for the plain part. -/
namespace PL
open PySem PySem.Spec PyProof.Rows L2 PLX

def isBor : Option (Option Sv) → Bool
  | some (some (.bor _)) => true
  | _ => false
theorem nb {o : Option (Option Sv)} (h : isBor o = false) : ∀ m, o ≠ some (some (.bor m)) := fun m e => by
  rw [e] at h
  cases h
theorem ifT {c : Bool} {A B : Prop} (h : c = true) (a : A) : if c = true then A else B := by rw [if_pos h]; exact a
theorem ifF {c : Bool} {A B : Prop} (h : c = false) (b : B) : if c = true then A else B := by rw [h, if_neg Bool.false_ne_true]; exact b
theorem if2 {c : Bool} {A B : Prop} (a : c = true → A) (b : c = false → B) : if c = true then A else B := by
  cases c
  · exact ifF rfl (b rfl)
  · exact ifT rfl (a rfl)
/-- a test by a proposition -/
theorem ifd {p A B : Prop} [Decidable p] (a : p → A) (b : ¬ p → B) : if (decide p) = true then A else B := by
  by_cases h : p
  · exact ifT (decide_eq_true h) (a h)
  · exact ifF (decide_eq_false h) (b h)
theorem kit_int_int : kitB "int" "int" = some true := by decide +kernel
theorem kit_bool_int : kitB "bool" "int" = some true := by decide +kernel
theorem kit_int_bool : kitB "int" "bool" = some false := by decide +kernel
theorem kit_bool_bool : kitB "bool" "bool" = some true := by decide +kernel
theorem kit_none_int : kitB "NoneType" "int" = some false := by decide +kernel
theorem kit_str_int : kitB "str" "int" = some false := by decide +kernel
theorem kit_tuple_int : kitB "tuple" "int" = some false := by decide +kernel
theorem kit_list_int : kitB "list" "int" = some false := by decide +kernel
theorem kit_none_tuple : kitB "NoneType" "tuple" = some false := by decide +kernel
theorem kit_int_tuple : kitB "int" "tuple" = some false := by decide +kernel
theorem kit_bool_tuple : kitB "bool" "tuple" = some false := by decide +kernel
theorem kit_str_tuple : kitB "str" "tuple" = some false := by decide +kernel
theorem kit_tuple_tuple : kitB "tuple" "tuple" = some true := by decide +kernel
theorem kit_list_tuple : kitB "list" "tuple" = some false := by decide +kernel
theorem kit_str_str : kitB "str" "str" = some true := by decide +kernel
theorem forL_ix {g : pG} {b : pS} {Q : pEnds} {ds : List D} (I : Nat → PEnv → Prop) {e : PEnv} (h0 : I 0 e)
    (step : ∀ (i : Nat) d e (N : PEnv → Prop), ds[i]? = some d → I i e → (∀ e', I (i + 1) e' → N e') → g (.val d) e fun e1 => b { nx := N, rt := Q.rt, bk := Q.nx, ct := N } e1) (fin : ∀ e, I ds.length e → Q.nx e) : forL g b ds Q e := by
  suffices ∀ (r : List D) (k : Nat) e, ds.drop k = r → k ≤ ds.length → I k e → forL g b r Q e from this ds 0 e rfl (Nat.zero_le _) h0
  intro r
  induction r with
  | nil =>
    intro k e hk hl hi
    have e1 : k = ds.length := by
      have := congrArg List.length hk
      rw [List.length_drop, List.length_nil] at this
      omega
    subst e1
    exact fin e hi
  | cons d r ih =>
    intro k e hk hl hi
    have hlt : k < ds.length := by
      have := congrArg List.length hk
      rw [List.length_drop, List.length_cons] at this
      omega
    have hd : ds[k]? = some d := by
      have := congrArg (fun l : List D => l[0]?) hk
      simp only [List.getElem?_drop, Nat.add_zero, List.getElem?_cons_zero] at this
      exact this
    have hr : ds.drop (k + 1) = r := by
      rw [← List.drop_drop, hk]
      rfl
    exact step k d e (forL g b r Q) hd hi fun e' h' => ih (k + 1) e' hr hlt h'
theorem lcL_ix {g : pG} {t : pT} {p : pE} {own : List Nat} {ds : List D} {P : List D → PEnv → Prop} (I : Nat → List D → PEnv → Prop) {e : PEnv} {acc0 : List D} (h0 : I 0 acc0 e)
    (step : ∀ (i : Nat) d acc e (N : List D → PEnv → Prop), ds[i]? = some d → I i acc e → (∀ acc' e', I (i + 1) acc' e' → N acc' e') →
      g (.val d) (wipeP e own) fun e1 => t e1 fun k e2 => if k = true then pF p e2 fun x e3 => acc.length < sizeLine ∧ N (acc ++ [x]) e3 else N acc e2) (fin : ∀ acc e, I ds.length acc e → P acc e) : lcL g t p own ds acc0 e P := by
  suffices ∀ (r : List D) (k : Nat) acc e, ds.drop k = r → k ≤ ds.length → I k acc e → lcL g t p own r acc e P from this ds 0 acc0 e rfl (Nat.zero_le _) h0
  intro r
  induction r with
  | nil =>
    intro k acc e hk hl hi
    have e1 : k = ds.length := by
      have := congrArg List.length hk
      rw [List.length_drop, List.length_nil] at this
      omega
    subst e1
    exact fin acc e hi
  | cons d r ih =>
    intro k acc e hk hl hi
    have hlt : k < ds.length := by
      have := congrArg List.length hk
      rw [List.length_drop, List.length_cons] at this
      omega
    have hd : ds[k]? = some d := by
      have := congrArg (fun l : List D => l[0]?) hk
      simp only [List.getElem?_drop, Nat.add_zero, List.getElem?_cons_zero] at this
      exact this
    have hr : ds.drop (k + 1) = r := by
      rw [← List.drop_drop, hk]
      rfl
    exact step k d acc e (fun acc e => lcL g t p own r acc e P) hd hi fun acc' e' h' => ih (k + 1) acc' e' hr hlt h'
theorem sl {n : Nat} (h : n ≤ 1000) : n ≤ sizeLine := Nat.le_trans h (by decide)
/-- small -/
def Sm (k : Nat) (x : Int) : Prop := x.natAbs < 2 ^ k
theorem Sm.log {k : Nat} {x : Int} (h : Sm k x) (hk : 0 < k) : x.natAbs.log2 < k := by
  by_cases z : x.natAbs = 0
  · rw [z]; simpa using hk
  · exact (Nat.log2_lt z).mpr h
theorem Sm.mono {j k : Nat} {x : Int} (h : Sm j x) (hj : j ≤ k) : Sm k x := Nat.lt_of_lt_of_le h (Nat.pow_le_pow_right (by decide) hj)
theorem Sm.mul {j k : Nat} {x y : Int} (hx : Sm j x) (hy : Sm k y) : Sm (j + k) (x * y) := by
  unfold Sm at *
  rw [Int.natAbs_mul, Nat.pow_add]
  exact Nat.mul_lt_mul'' hx hy
theorem Sm.add {k : Nat} {x y : Int} (hx : Sm k x) (hy : Sm k y) : Sm (k + 1) (x + y) := by
  unfold Sm at *
  have := Int.natAbs_add_le x y
  rw [Nat.pow_succ]
  omega
theorem Sm.neg {k : Nat} {x : Int} (hx : Sm k x) : Sm k (-x) := by
  unfold Sm at *
  rw [Int.natAbs_neg]
  exact hx
theorem Sm.sub {k : Nat} {x y : Int} (hx : Sm k x) (hy : Sm k y) : Sm (k + 1) (x - y) := hx.add hy.neg
theorem Sm.cmul {j k : Nat} {x y : Int} (hx : Sm j x) (hy : Sm k y) (hj : 0 < j) (hk : 0 < k) (h : j + k ≤ 1000000) : CMul x y ∨ CMulW x y := by
  refine .inr ?_
  have h1 := hx.log hj
  have h2 := hy.log hk
  unfold CMulW
  omega
theorem cml {x y : Int} (h : -(2 ^ 64) < x ∧ x < 2 ^ 64) : CMul x y ∨ CMulW x y := .inl (.inl h)
theorem cmr {x y : Int} (h : -(2 ^ 64) < y ∧ y < 2 ^ 64) : CMul x y ∨ CMulW x y := .inl (.inr h)
end PL
namespace PL
open PySem PySem.Spec PyProof.Rows L2 PLX
/-- the slots as they stand -/
theorem norm {N : PEnv → Prop} {e : PEnv} (e' : PEnv) (h : e = e') (k : N e') : N e := h ▸ k
abbrev vi (x : Int) : Option Sv := some (.val (.int x))
abbrev vd (x : D) : Option Sv := some (.val x)
abbrev v0 : Option Sv := none
end PL
namespace PL
open PySem PySem.Spec PyProof.Rows L2 PLX
theorem norml {g : pG} {t : pT} {p : pE} {own : List Nat} {ds acc : List D} {e : PEnv} {P : List D → PEnv → Prop} (e' : PEnv) (h : e = e') (k : lcL g t p own ds acc e' P) : lcL g t p own ds acc e P := h ▸ k
abbrev vo (ds : List D) : Option Sv := some (.own (.lst ds))
end PL
set_option Elab.async false
set_option linter.all false
set_option maxRecDepth 100000
set_option maxHeartbeats 4000000
namespace K79
open PySem PySem.Spec PyProof.Rows L2 PL PLX
def top (i : Nat) : Stmt := PySem.Challenge.pw_shelfmill_k79_fair_shares.main.body.getD i (.Pass ⟨0, 0, 0, 0⟩)
def exmT : List ((Str × Str) × Bool) := [(("BadArgument", "BadArgument"), true), (("BadArgument", "ShelfmillError"), true)]
def errT : List (Str × List Str) := [("BadArgument", ["reason"])]
def fldT : List Str := ["reason"]
def freeT : List Str := ["abs", "all", "bool", "enumerate", "int", "isinstance", "len", "list", "max", "min", "range", "str", "tuple"]
def c_GROUPS : D := (.tup [(.tup [(.int 0)]), (.tup [(.int 1)]), (.tup [(.int 2)]), (.tup [(.int 0), (.int 1)]), (.tup [(.int 0), (.int 2)]), (.tup [(.int 1), (.int 2)]), (.tup [(.int 0), (.int 1), (.int 2)])])
def conT : List (Str × D) := [("GROUPS", c_GROUPS)]

/- is_whole(value): 0 value -/
def b_is_whole (xc : XC) : pS :=
  (sRet (pAndV (pIsi "int" (pPk 0)) (pNotV (pIsi "bool" (pPk 0)))))
@[irreducible] def sp_is_whole : PSp := semFn 0 1 false b_is_whole

/- check_costs(costs): 0 costs, 1 cost -/
def b_check_costs (xc : XC) : pS :=
  (sSeq (sIf (pOrT (pNotT (pB (pIsi "tuple" (pPk 0)))) (pB (pOp (cmpB .NotEq) (pBlt .len (pLast (pPk 0))) (pF (pC (.int 7))))))
    (sRaise "BadArgument" ["reason"] (pCons (pC (.str "costs")) pNil) xc)
    sNext)
  (pFor (iVal (pVar 0)) (gP 1)
    (sIf (pNotT (pB (pCall sp_is_whole xc (pCons (pVar 1) pNil))))
      (sRaise "BadArgument" ["reason"] (pCons (pC (.str "costs")) pNil) xc)
      sNext)))
@[irreducible] def sp_check_costs : PSp := semFn 1 1 false b_check_costs

/- complaint(costs): 0 costs, 1 first, 2 second, 3 third, 4 front, 5 outer, 6 back, 7 together -/
def b_complaint (xc : XC) : pS :=
  (sSeq (sDrop (pCall sp_check_costs xc (pCons (pVar 0) pNil)))
  (sSeq (sAsg (pVar 0) (gTL 7 (gsCons (gP 1) (gsCons (gP 2) (gsCons (gP 3) (gsCons (gP 4) (gsCons (gP 5) (gsCons (gP 6) (gsCons (gP 7) gsNil)))))))))
  (sSeq (sIf (pB (pOp (cmpB .Lt) (pOp (opB .Add) (pOp (opB .Add) (pVar 1) (pPk 2)) (pPk 3)) (pPk 7)))
    (sRet (pC (.str "alone")))
    sNext)
  (sSeq (sIf (pB (pOp (cmpB .Lt) (pBlt .min_ (pCons (pOp (opB .Add) (pVar 4) (pPk 3)) (pCons (pOp (opB .Add) (pVar 5) (pPk 2)) (pLast (pF (pOp (opB .Add) (pVar 6) (pPk 1))))))) (pPk 7)))
    (sRet (pC (.str "two")))
    sNext)
  (sSeq (sIf (pB (pOp (cmpB .Lt) (pOp (opB .Add) (pOp (opB .Add) (pVar 4) (pPk 5)) (pPk 6)) (pF (pOp (opB .Mult) (pC (.int 2)) (pPk 7)))))
    (sRet (pC (.str "pairs")))
    sNext)
  (sRet (pC .non)))))))
@[irreducible] def sp_complaint : PSp := semFn 7 1 false b_complaint

/- fair_shares(costs): 0 costs, 1 first, 2 second, 3 third, 4 front, 5 outer, 6 back, 7 together, 8 least_second, 9 least_third, 10 one, 11 two -/
def b_fair_shares (xc : XC) : pS :=
  (sSeq (sIf (pB (pIsN true (pF (pCall sp_complaint xc (pCons (pVar 0) pNil)))))
    (sRet (pC .non))
    sNext)
  (sSeq (sAsg (pVar 0) (gTL 7 (gsCons (gP 1) (gsCons (gP 2) (gsCons (gP 3) (gsCons (gP 4) (gsCons (gP 5) (gsCons (gP 6) (gsCons (gP 7) gsNil)))))))))
  (sSeq (sAsg (pOp (opB .Sub) (pVar 7) (pPk 5)) (gP 8))
  (sSeq (sAsg (pOp (opB .Sub) (pVar 7) (pPk 4)) (gP 9))
  (sSeq (sAsg (pBlt .min_ (pCons (pVar 1) (pLast (pF (pOp (opB .Sub) (pOp (opB .Sub) (pVar 7) (pPk 8)) (pPk 9)))))) (gP 10))
  (sSeq (sAsg (pBlt .min_ (pCons (pVar 2) (pLast (pF (pOp (opB .Sub) (pOp (opB .Sub) (pVar 7) (pPk 10)) (pPk 9)))))) (gP 11))
  (sRet (pTup (pCons (pVar 10) (pCons (pVar 11) (pCons (pOp (opB .Sub) (pOp (opB .Sub) (pVar 7) (pPk 10)) (pPk 11)) pNil)))))))))))
@[irreducible] def sp_fair_shares : PSp := semFn 11 1 false b_fair_shares

/- _law_complaint_refused(costs): 0 costs, 1 raised -/
def b__law_complaint_refused (xc : XC) : pS :=
  (sSeq (sTryAs 1 (fun y => exmT.lookup (y, ("BadArgument" : Str))) (fun xc' =>
    (sDrop (pCall sp_complaint xc' (pCons (pVar 0) pNil))))
    (sRet (pAndV (pIsX 1 fun c => exmT.lookup (c, ("ShelfmillError" : Str))) (pOp (cmpB .Eq) (pXf 1 "reason") (pF (pC (.str "costs")))))) xc)
  (sRet (pC (.bl false))))
@[irreducible] def sp__law_complaint_refused : PSp := semFn 1 1 false b__law_complaint_refused

/- _law_shares_refused(costs): 0 costs, 1 raised -/
def b__law_shares_refused (xc : XC) : pS :=
  (sSeq (sTryAs 1 (fun y => exmT.lookup (y, ("BadArgument" : Str))) (fun xc' =>
    (sDrop (pCall sp_fair_shares xc' (pCons (pVar 0) pNil))))
    (sRet (pAndV (pIsX 1 fun c => exmT.lookup (c, ("ShelfmillError" : Str))) (pOp (cmpB .Eq) (pXf 1 "reason") (pF (pC (.str "costs")))))) xc)
  (sRet (pC (.bl false))))
@[irreducible] def sp__law_shares_refused : PSp := semFn 1 1 false b__law_shares_refused

/- _law_draw(d, many): 0 d, 1 many, 2 found, 3 size, 4 cell -/
def b__law_draw (xc : XC) : pS :=
  (sSeq (sIf (pB (pOp (cmpB .Gt) (pIxN 0 (pF (pC (.int 2)))) (pF (pC (.int 0)))))
    (sSeq (sAsg (pIxN 0 (pF (pC (.int 2)))) (gP 2))
    (sSeq (sAsg (pOp (opB .FloorDiv) (pVar 2) (pPk 1)) (gIx 0 (pC (.int 2))))
    (sRet (pOp (opB .Mod) (pBlt .int_ (pLast (pPk 2))) (pPk 1)))))
    sNext)
  (sSeq (sAsg (pC (.int 0)) (gP 3))
  (sSeq (sIf (pB (pOp (cmpB .Lt) (pIxN 0 (pF (pC (.int 1)))) (pF (pBlt .len (pLast (pF (pIxN 0 (pF (pC (.int 0))))))))))
    (sSeq (sAsg (pOp itemB (pIxN 0 (pF (pC (.int 0)))) (pF (pIxN 0 (pF (pC (.int 1)))))) (gP 4))
    (sAsg (pOp (opB .Add) (pOp (opB .Mult) (pC (.int 2)) (pF (pBlt .abs (pLast (pPk 4))))) (pF (pBlt .int_ (pLast (pF (pOp (cmpB .Lt) (pVar 4) (pF (pC (.int 0))))))))) (gP 3)))
    sNext)
  (sSeq (sAugIx 0 (pC (.int 1)) (pC (.int 1)))
  (sSeq (sIf (pB (pOp (cmpB .GtE) (pVar 3) (pF (pOp (opB .Mult) (pC (.int 2)) (pF (pOp (opB .Pow) (pC (.int 10)) (pF (pC (.int 18)))))))))
    (sSeq (sAsg (pOp (opB .Mod) (pBlt .int_ (pLast (pF (pOp (opB .FloorDiv) (pVar 3) (pF (pC (.int 2))))))) (pF (pOp (opB .LShift) (pC (.int 1)) (pF (pC (.int 6000)))))) (gP 2))
    (sSeq (sAsg (pOp (opB .FloorDiv) (pVar 2) (pPk 1)) (gIx 0 (pC (.int 2))))
    (sRet (pOp (opB .Mod) (pBlt .int_ (pLast (pPk 2))) (pPk 1)))))
    sNext)
  (sSeq (sAsg (pOp (opB .Mod) (pBlt .int_ (pLast (pF (pOp (opB .Add) (pOp (opB .Add) (pOp (opB .Add) (pOp (opB .Mult) (pIxN 0 (pF (pC (.int 3)))) (pF (pC (.int 48271)))) (pF (pOp (opB .Mult) (pOp (opB .Mod) (pBlt .int_ (pLast (pPk 3))) (pF (pC (.int 2147483629)))) (pF (pC (.int 16807)))))) (pF (pOp (opB .Mult) (pIxN 0 (pF (pC (.int 1)))) (pF (pC (.int 69621)))))) (pF (pC (.int 11))))))) (pF (pC (.int 2147483647)))) (gIx 0 (pC (.int 3))))
  (sRet (pOp (opB .Mod) (pBlt .int_ (pLast (pF (pOp (opB .FloorDiv) (pIxN 0 (pF (pC (.int 3)))) (pF (pC (.int 16))))))) (pPk 1)))))))))
@[irreducible] def sp__law_draw : PSp := semFn 3 2 true b__law_draw

/- _law_bad_costs(d, costs): 0 d, 1 costs, 2 way, 3 place, 4 odd -/
def b__law_bad_costs (xc : XC) : pS :=
  (sSeq (sAsg (pCallR sp__law_draw xc 0 (pCons (pC (.int 8)) pNil)) (gP 2))
  (sSeq (sAsg (pCallR sp__law_draw xc 0 (pCons (pC (.int 7)) pNil)) (gP 3))
  (sSeq (sIf (pB (pOp (cmpB .Eq) (pVar 2) (pF (pC (.int 0)))))
    (sRet (pBlt .list_ (pLast (pPk 1))))
    sNext)
  (sSeq (sIf (pB (pOp (cmpB .Eq) (pVar 2) (pF (pC (.int 1)))))
    (sRet (pOp (opB .Add) (pVar 1) (pF (pTup (pCons (pC (.int 0)) pNil)))))
    sNext)
  (sSeq (sIf (pB (pOp (cmpB .Eq) (pVar 2) (pF (pC (.int 2)))))
    (sRet (pSlN 1 (some (pC (.int 1))) none))
    sNext)
  (sSeq (sIf (pB (pOp (cmpB .Eq) (pVar 2) (pF (pC (.int 3)))))
    (sRet (pC .non))
    sNext)
  (sSeq (sAsg (pOp itemB (pLst (pCons (pC (.bl true)) (pCons (pC .non) (pCons (pTup (pCons (pIxN 1 (pPk 3)) (pCons (pC (.int 1)) pNil))) (pCons (pC (.str "0")) pNil))))) (pF (pOp (opB .Sub) (pVar 2) (pF (pC (.int 4)))))) (gP 4))
  (sRet (pOp (opB .Add) (pOp (opB .Add) (pSlN 1 none (some (pVar 3))) (pF (pTup (pCons (pVar 4) pNil)))) (pF (pSlN 1 (some (pOp (opB .Add) (pVar 3) (pF (pC (.int 1))))) none)))))))))))
@[irreducible] def sp__law_bad_costs : PSp := semFn 3 2 true b__law_bad_costs

/- _law_common(a, b): 0 a, 1 b -/
def b__law_common (xc : XC) : pS :=
  (sSeq (sAsg (pBlt .abs (pLast (pPk 0))) (gP 0))
  (sSeq (sAsg (pBlt .abs (pLast (pPk 1))) (gP 1))
  (sSeq (pWhile (pB (pOp (cmpB .Gt) (pVar 1) (pF (pC (.int 0)))))
    (sPar 0 1 (pCons (pVar 1) (pCons (pOp (opB .Mod) (pBlt .int_ (pLast (pPk 0))) (pPk 1)) pNil))))
  (sRet (pMove 0)))))
@[irreducible] def sp__law_common : PSp := semFn 0 2 false b__law_common

/- _law_fraction(above, bottom): 0 above, 1 bottom, 2 share -/
def b__law_fraction (xc : XC) : pS :=
  (sSeq (sIf (pB (pOp (cmpB .Lt) (pVar 1) (pF (pC (.int 0)))))
    (sSeq (sAsg (pUn (unB .USub) (pVar 0)) (gP 0))
    (sAsg (pUn (unB .USub) (pVar 1)) (gP 1)))
    sNext)
  (sSeq (sAsg (pCall sp__law_common xc (pCons (pVar 0) (pCons (pVar 1) pNil))) (gP 2))
  (sRet (pTup (pCons (pOp (opB .FloorDiv) (pVar 0) (pPk 2)) (pCons (pOp (opB .FloorDiv) (pVar 1) (pPk 2)) pNil))))))
@[irreducible] def sp__law_fraction : PSp := semFn 1 2 false b__law_fraction

/- _law_plus(one, other): 0 one, 1 other -/
def b__law_plus (xc : XC) : pS :=
  (sRet (pCall sp__law_fraction xc (pCons (pOp (opB .Add) (pOp (opB .Mult) (pIxN 0 (pF (pC (.int 0)))) (pF (pIxN 1 (pF (pC (.int 1)))))) (pF (pOp (opB .Mult) (pIxN 1 (pF (pC (.int 0)))) (pF (pIxN 0 (pF (pC (.int 1)))))))) (pCons (pOp (opB .Mult) (pIxN 0 (pF (pC (.int 1)))) (pF (pIxN 1 (pF (pC (.int 1)))))) pNil))))
@[irreducible] def sp__law_plus : PSp := semFn 0 2 false b__law_plus

/- _law_paid(shares, group): 0 shares, 1 group, 2 found, 3 house -/
def b__law_paid (xc : XC) : pS :=
  (sSeq (sAsg (pTup (pCons (pC (.int 0)) (pCons (pC (.int 1)) pNil))) (gP 2))
  (sSeq (pFor (iVal (pVar 1)) (gP 3)
    (sAsg (pCall sp__law_plus xc (pCons (pVar 2) (pCons (pIxN 0 (pPk 3)) pNil))) (gP 2)))
  (sRet (pMove 2))))
@[irreducible] def sp__law_paid : PSp := semFn 2 2 false b__law_paid

/- _law_below(one, other): 0 one, 1 other -/
def b__law_below (xc : XC) : pS :=
  (sRet (pOp (cmpB .Lt) (pOp (opB .Mult) (pIxN 0 (pF (pC (.int 0)))) (pF (pIxN 1 (pF (pC (.int 1)))))) (pF (pOp (opB .Mult) (pIxN 1 (pF (pC (.int 0)))) (pF (pIxN 0 (pF (pC (.int 1)))))))))
@[irreducible] def sp__law_below : PSp := semFn 0 2 false b__law_below

/- _law_fair_paper(costs, shares): 0 costs, 1 shares, 2 groups, 3 k -/
def b__law_fair_paper (xc : XC) : pS :=
  (sSeq (sAsg (pLst (pCons (pTup (pCons (pC (.int 0)) pNil)) (pCons (pTup (pCons (pC (.int 1)) pNil)) (pCons (pTup (pCons (pC (.int 2)) pNil)) (pCons (pTup (pCons (pC (.int 0)) (pCons (pC (.int 1)) pNil))) (pCons (pTup (pCons (pC (.int 0)) (pCons (pC (.int 2)) pNil))) (pCons (pTup (pCons (pC (.int 1)) (pCons (pC (.int 2)) pNil))) pNil))))))) (gP 2))
  (sSeq (pFor (iRange1 (pC (.int 6))) (gP 3)
    (sIf (pB (pCall sp__law_below xc (pCons (pTup (pCons (pIxN 0 (pPk 3)) (pCons (pC (.int 1)) pNil))) (pCons (pCall sp__law_paid xc (pCons (pVar 1) (pCons (pIxN 2 (pPk 3)) pNil))) pNil))))
      (sRet (pC (.bl false)))
      sNext))
  (sRet (pOp (cmpB .Eq) (pCall sp__law_paid xc (pCons (pVar 1) (pCons (pTup (pCons (pC (.int 0)) (pCons (pC (.int 1)) (pCons (pC (.int 2)) pNil)))) pNil))) (pF (pTup (pCons (pIxN 0 (pF (pC (.int 6)))) (pCons (pC (.int 1)) pNil))))))))
@[irreducible] def sp__law_fair_paper : PSp := semFn 2 2 false b__law_fair_paper

/- compare(one, other): 0 one, 1 other, 2 left, 3 right -/
def b_compare (xc : XC) : pS :=
  (sSeq (sAsg (pOp (opB .Mult) (pIxN 0 (pF (pC (.int 0)))) (pF (pIxN 1 (pF (pC (.int 1)))))) (gP 2))
  (sSeq (sAsg (pOp (opB .Mult) (pIxN 1 (pF (pC (.int 0)))) (pF (pIxN 0 (pF (pC (.int 1)))))) (gP 3))
  (sSeq (sIf (pB (pOp (cmpB .Lt) (pVar 2) (pPk 3)))
    (sRet (pUn (unB .USub) (pC (.int 1))))
    sNext)
  (sSeq (sIf (pB (pOp (cmpB .Gt) (pVar 2) (pPk 3)))
    (sRet (pC (.int 1)))
    sNext)
  (sRet (pC (.int 0)))))))
@[irreducible] def sp_compare : PSp := semFn 2 2 false b_compare

/- common(one, other): 0 one, 1 other -/
def b_common (xc : XC) : pS :=
  (sSeq (sAsg (pBlt .abs (pLast (pPk 0))) (gP 0))
  (sSeq (sAsg (pBlt .abs (pLast (pPk 1))) (gP 1))
  (sSeq (pWhile (pB (pOp (cmpB .Gt) (pVar 1) (pF (pC (.int 0)))))
    (sPar 0 1 (pCons (pVar 1) (pCons (pOp (opB .Mod) (pVar 0) (pPk 1)) pNil))))
  (sRet (pMove 0)))))
@[irreducible] def sp_common : PSp := semFn 0 2 false b_common

/- fraction(top, bottom): 0 top, 1 bottom, 2 shared_part -/
def b_fraction (xc : XC) : pS :=
  (sSeq (sIf (pB (pOp (cmpB .Lt) (pVar 1) (pF (pC (.int 0)))))
    (sSeq (sAsg (pUn (unB .USub) (pVar 0)) (gP 0))
    (sAsg (pUn (unB .USub) (pVar 1)) (gP 1)))
    sNext)
  (sSeq (sAsg (pCall sp_common xc (pCons (pVar 0) (pCons (pVar 1) pNil))) (gP 2))
  (sRet (pTup (pCons (pOp (opB .FloorDiv) (pVar 0) (pPk 2)) (pCons (pOp (opB .FloorDiv) (pVar 1) (pPk 2)) pNil))))))
@[irreducible] def sp_fraction : PSp := semFn 1 2 false b_fraction

/- plus(one, other): 0 one, 1 other -/
def b_plus (xc : XC) : pS :=
  (sRet (pCall sp_fraction xc (pCons (pOp (opB .Add) (pOp (opB .Mult) (pIxN 0 (pF (pC (.int 0)))) (pF (pIxN 1 (pF (pC (.int 1)))))) (pF (pOp (opB .Mult) (pIxN 1 (pF (pC (.int 0)))) (pF (pIxN 0 (pF (pC (.int 1)))))))) (pCons (pOp (opB .Mult) (pIxN 0 (pF (pC (.int 1)))) (pF (pIxN 1 (pF (pC (.int 1)))))) pNil))))
@[irreducible] def sp_plus : PSp := semFn 0 2 false b_plus

/- are_fair(costs, shares): 0 costs, 1 shares, 2 number, 3 group, 4 paid, 5 house, 6 here -/
def b_are_fair (xc : XC) : pS :=
  (sSeq (pFor (iEnumP (pC c_GROUPS)) (gTL 2 (gsCons (gP 2) (gsCons (gP 3) gsNil)))
    (sSeq (sAsg (pTup (pCons (pC (.int 0)) (pCons (pC (.int 1)) pNil))) (gP 4))
    (sSeq (pFor (iVal (pVar 3)) (gP 5)
      (sAsg (pCall sp_plus xc (pCons (pVar 4) (pCons (pIxN 1 (pPk 5)) pNil))) (gP 4)))
    (sSeq (sAsg (pCall sp_compare xc (pCons (pVar 4) (pCons (pTup (pCons (pIxN 0 (pPk 2)) (pCons (pC (.int 1)) pNil))) pNil))) (gP 6))
    (sSeq (sIf (pB (pOp (cmpB .Gt) (pVar 6) (pF (pC (.int 0)))))
      (sRet (pC (.bl false)))
      sNext)
    (sIf (pAndT (pB (pOp (cmpB .Eq) (pBlt .len (pLast (pPk 3))) (pF (pC (.int 3))))) (pB (pOp (cmpB .NotEq) (pVar 6) (pF (pC (.int 0))))))
      (sRet (pC (.bl false)))
      sNext))))))
  (sRet (pC (.bl true))))
@[irreducible] def sp_are_fair : PSp := semFn 5 2 false b_are_fair

/- _law_minus(one, other): 0 one, 1 other -/
def b__law_minus (xc : XC) : pS :=
  (sRet (pCall sp__law_fraction xc (pCons (pOp (opB .Sub) (pOp (opB .Mult) (pIxN 0 (pF (pC (.int 0)))) (pF (pIxN 1 (pF (pC (.int 1)))))) (pF (pOp (opB .Mult) (pIxN 1 (pF (pC (.int 0)))) (pF (pIxN 0 (pF (pC (.int 1)))))))) (pCons (pOp (opB .Mult) (pIxN 0 (pF (pC (.int 1)))) (pF (pIxN 1 (pF (pC (.int 1)))))) pNil))))
@[irreducible] def sp__law_minus : PSp := semFn 0 2 false b__law_minus

/- _law_paper(d, row): 0 d, 1 row, 2 shares, 3 turn, 4 amount, 5 giver, 6 taker, 7 part -/
def b__law_paper (xc : XC) : pS :=
  (sSeq (sAsg (pLc (iVal (pVar 1)) (gP 7) pYes (pTup (pCons (pVar 7) (pCons (pC (.int 1)) pNil))) [7]) (gP 2))
  (sSeq (pFor (iRange1 (pCallR sp__law_draw xc 0 (pCons (pC (.int 3)) pNil))) (gP 3)
    (sSeq (sAsg (pCall sp__law_fraction xc (pCons (pCallR sp__law_draw xc 0 (pCons (pC (.int 7)) pNil)) (pCons (pOp (opB .Add) (pC (.int 1)) (pF (pCallR sp__law_draw xc 0 (pCons (pC (.int 3)) pNil)))) pNil))) (gP 4))
    (sSeq (sAsg (pCallR sp__law_draw xc 0 (pCons (pC (.int 3)) pNil)) (gP 5))
    (sSeq (sAsg (pCallR sp__law_draw xc 0 (pCons (pC (.int 4)) pNil)) (gP 6))
    (sSeq (sAsg (pCall sp__law_minus xc (pCons (pIxN 2 (pPk 5)) (pCons (pVar 4) pNil))) (gIx 2 (pVar 5)))
    (sIf (pB (pOp (cmpB .Lt) (pVar 6) (pF (pC (.int 3)))))
      (sAsg (pCall sp__law_plus xc (pCons (pIxN 2 (pPk 6)) (pCons (pVar 4) pNil))) (gIx 2 (pVar 6)))
      sNext))))))
  (sRet (pBlt .tuple_ (pLast (pPk 2))))))
@[irreducible] def sp__law_paper : PSp := semFn 6 2 true b__law_paper

/- _law_papers_right(d, costs, row): 0 d, 1 costs, 2 row, 3 turn, 4 paper, 5 told -/
def b__law_papers_right (xc : XC) : pS :=
  (sSeq (sIf (pB (pIsN false (pPk 2)))
    (sAsg (pTup (pCons (pIxN 1 (pF (pC (.int 0)))) (pCons (pIxN 1 (pF (pC (.int 1)))) (pCons (pOp (opB .Sub) (pOp (opB .Sub) (pIxN 1 (pF (pC (.int 6)))) (pF (pIxN 1 (pF (pC (.int 0)))))) (pF (pIxN 1 (pF (pC (.int 1)))))) pNil)))) (gP 2))
    sNext)
  (sSeq (pFor (iRange1 (pC (.int 4))) (gP 3)
    (sSeq (sAsg (pCallR sp__law_paper xc 0 (pCons (pVar 2) pNil)) (gP 4))
    (sSeq (sAsg (pCall sp_are_fair xc (pCons (pVar 1) (pCons (pVar 4) pNil))) (gP 5))
    (sIf (pOrT (pNotT (pB (pIsi "bool" (pPk 5)))) (pB (pOp (cmpB .NotEq) (pVar 5) (pF (pCall sp__law_fair_paper xc (pCons (pVar 1) (pCons (pVar 4) pNil)))))))
      (sRet (pC (.bl false)))
      sNext))))
  (sRet (pC (.bl true)))))
@[irreducible] def sp__law_papers_right : PSp := semFn 3 3 true b__law_papers_right

/- _law_is_even(row): 0 row, 1 part -/
def b__law_is_even (xc : XC) : pS :=
  (sRet (pBlt .all_ (pLast (pF (pLc (iVal (pVar 0)) (gP 1) pYes (pOp (cmpB .Eq) (pOp (opB .Mod) (pBlt .int_ (pLast (pPk 1))) (pF (pC (.int 2)))) (pF (pC (.int 0)))) [1])))))
@[irreducible] def sp__law_is_even : PSp := semFn 1 1 false b__law_is_even

/- _law_fair(costs, row, factor): 0 costs, 1 row, 2 factor, 3 one, 4 two, 5 three, 6 paid, 7 k -/
def b__law_fair (xc : XC) : pS :=
  (sSeq (sAsg (pVar 1) (gTL 3 (gsCons (gP 3) (gsCons (gP 4) (gsCons (gP 5) gsNil)))))
  (sSeq (sIf (pB (pOp (cmpB .NotEq) (pOp (opB .Add) (pOp (opB .Add) (pVar 3) (pPk 4)) (pPk 5)) (pF (pOp (opB .Mult) (pVar 2) (pF (pIxN 0 (pF (pC (.int 6)))))))))
    (sRet (pC (.bl false)))
    sNext)
  (sSeq (sAsg (pTup (pCons (pVar 3) (pCons (pVar 4) (pCons (pVar 5) (pCons (pOp (opB .Add) (pVar 3) (pPk 4)) (pCons (pOp (opB .Add) (pVar 3) (pPk 5)) (pCons (pOp (opB .Add) (pVar 4) (pPk 5)) pNil))))))) (gP 6))
  (sRet (pBlt .all_ (pLast (pF (pLc (iRange1 (pC (.int 6))) (gP 7) pYes (pOp (cmpB .LtE) (pIxN 6 (pPk 7)) (pF (pOp (opB .Mult) (pVar 2) (pF (pIxN 0 (pPk 7)))))) [7]))))))))
@[irreducible] def sp__law_fair : PSp := semFn 5 3 false b__law_fair

/- _law_halves(costs): 0 costs, 1 found, 2 one, 3 two, 4 row -/
def b__law_halves (xc : XC) : pS :=
  (sSeq (sAsg (pLst pNil) (gP 1))
  (sSeq (pFor (iRange2 (pOp (opB .Mult) (pC (.int 2)) (pF (pOp (opB .Sub) (pIxN 0 (pF (pC (.int 6)))) (pF (pIxN 0 (pF (pC (.int 5)))))))) (pOp (opB .Add) (pOp (opB .Mult) (pC (.int 2)) (pF (pIxN 0 (pF (pC (.int 0)))))) (pF (pC (.int 1))))) (gP 2)
    (pFor (iRange2 (pOp (opB .Mult) (pC (.int 2)) (pF (pOp (opB .Sub) (pIxN 0 (pF (pC (.int 6)))) (pF (pIxN 0 (pF (pC (.int 4)))))))) (pOp (opB .Add) (pOp (opB .Mult) (pC (.int 2)) (pF (pIxN 0 (pF (pC (.int 1)))))) (pF (pC (.int 1))))) (gP 3)
      (sSeq (sAsg (pTup (pCons (pVar 2) (pCons (pVar 3) (pCons (pOp (opB .Sub) (pOp (opB .Sub) (pOp (opB .Mult) (pC (.int 2)) (pF (pIxN 0 (pF (pC (.int 6)))))) (pPk 2)) (pPk 3)) pNil)))) (gP 4))
      (sIf (pB (pCall sp__law_fair xc (pCons (pVar 0) (pCons (pVar 4) (pCons (pC (.int 2)) pNil)))))
        (sDrop (pAppend 1 (pVar 4)))
        sNext))))
  (sRet (pMove 1))))
@[irreducible] def sp__law_halves : PSp := semFn 4 1 false b__law_halves

/- _law_tried(costs, row): 0 costs, 1 row, 2 found, 3 whole, 4 part -/
def b__law_tried (xc : XC) : pS :=
  (sSeq (sAsg (pCall sp__law_halves xc (pCons (pVar 0) pNil)) (gP 2))
  (sSeq (sIf (pB (pIsN false (pPk 1)))
    (sRet (pOp (cmpB .Eq) (pBlt .len (pLast (pPk 2))) (pF (pC (.int 0)))))
    sNext)
  (sSeq (sAsg (pLc (iVal (pVar 2)) (gP 4) (pB (pCall sp__law_is_even xc (pCons (pVar 4) pNil))) (pVar 4) [4]) (gP 3))
  (sRet (pAndV (pOp (cmpB .Gt) (pBlt .len (pLast (pPk 3))) (pF (pC (.int 0)))) (pOp (cmpB .Eq) (pBlt .max_ (pLast (pPk 3))) (pF (pBlt .tuple_ (pLast (pF (pLc (iVal (pVar 1)) (gP 4) pYes (pOp (opB .Mult) (pC (.int 2)) (pPk 4)) [4])))))))))))
@[irreducible] def sp__law_tried : PSp := semFn 3 2 false b__law_tried

/- _law_is_int(thing): 0 thing -/
def b__law_is_int (xc : XC) : pS :=
  (sRet (pAndV (pIsi "int" (pPk 0)) (pNotV (pIsi "bool" (pPk 0)))))
@[irreducible] def sp__law_is_int : PSp := semFn 0 1 false b__law_is_int

/- _law_greatest_shares(costs, row): 0 costs, 1 row, 2 part -/
def b__law_greatest_shares (xc : XC) : pS :=
  (sSeq (sIf (pOrT (pNotT (pB (pIsi "tuple" (pPk 1)))) (pOrT (pB (pOp (cmpB .NotEq) (pBlt .len (pLast (pPk 1))) (pF (pC (.int 3))))) (pNotT (pB (pBlt .all_ (pLast (pF (pLc (iVal (pVar 1)) (gP 2) pYes (pCall sp__law_is_int xno (pCons (pVar 2) pNil)) [2]))))))))
    (sRet (pC (.bl false)))
    sNext)
  (sSeq (sIf (pNotT (pB (pCall sp__law_fair xc (pCons (pVar 0) (pCons (pVar 1) (pCons (pC (.int 1)) pNil))))))
    (sRet (pC (.bl false)))
    sNext)
  (sSeq (sIf (pAndT (pB (pOp (cmpB .NotEq) (pIxN 1 (pF (pC (.int 0)))) (pF (pIxN 0 (pF (pC (.int 0))))))) (pB (pOp (cmpB .NotEq) (pOp (opB .Add) (pIxN 1 (pF (pC (.int 0)))) (pF (pIxN 0 (pF (pC (.int 6)))))) (pF (pOp (opB .Add) (pIxN 0 (pF (pC (.int 3)))) (pF (pIxN 0 (pF (pC (.int 4))))))))))
    (sRet (pC (.bl false)))
    sNext)
  (sRet (pOrV (pOp (cmpB .Eq) (pIxN 1 (pF (pC (.int 1)))) (pF (pIxN 0 (pF (pC (.int 1)))))) (pOp (cmpB .Eq) (pOp (opB .Add) (pIxN 1 (pF (pC (.int 0)))) (pF (pIxN 1 (pF (pC (.int 1)))))) (pF (pIxN 0 (pF (pC (.int 3)))))))))))
@[irreducible] def sp__law_greatest_shares : PSp := semFn 1 2 false b__law_greatest_shares

/- _law_bar(costs): 0 costs, 1 whole -/
def b__law_bar (xc : XC) : pS :=
  (sSeq (sAsg (pIxN 0 (pF (pC (.int 6)))) (gP 1))
  (sSeq (sIf (pB (pOp (cmpB .Lt) (pOp (opB .Add) (pOp (opB .Add) (pIxN 0 (pF (pC (.int 0)))) (pF (pIxN 0 (pF (pC (.int 1)))))) (pF (pIxN 0 (pF (pC (.int 2)))))) (pPk 1)))
    (sRet (pC (.str "alone")))
    sNext)
  (sSeq (sIf (pOrT (pB (pOp (cmpB .Lt) (pOp (opB .Add) (pIxN 0 (pF (pC (.int 3)))) (pF (pIxN 0 (pF (pC (.int 2)))))) (pPk 1))) (pOrT (pB (pOp (cmpB .Lt) (pOp (opB .Add) (pIxN 0 (pF (pC (.int 4)))) (pF (pIxN 0 (pF (pC (.int 1)))))) (pPk 1))) (pB (pOp (cmpB .Lt) (pOp (opB .Add) (pIxN 0 (pF (pC (.int 5)))) (pF (pIxN 0 (pF (pC (.int 0)))))) (pPk 1)))))
    (sRet (pC (.str "two")))
    sNext)
  (sSeq (sIf (pB (pOp (cmpB .Lt) (pOp (opB .Add) (pOp (opB .Add) (pIxN 0 (pF (pC (.int 3)))) (pF (pIxN 0 (pF (pC (.int 4)))))) (pF (pIxN 0 (pF (pC (.int 5)))))) (pF (pOp (opB .Mult) (pC (.int 2)) (pPk 1)))))
    (sRet (pC (.str "pairs")))
    sNext)
  (sRet (pC .non))))))
@[irreducible] def sp__law_bar : PSp := semFn 1 1 false b__law_bar

/- _law_number(d): 0 d, 1 way, 2 found, 3 k -/
def b__law_number (xc : XC) : pS :=
  (sSeq (sAsg (pCallR sp__law_draw xc 0 (pCons (pC (.int 4)) pNil)) (gP 1))
  (sSeq (sIf (pB (pOp (cmpB .Eq) (pVar 1) (pF (pC (.int 0)))))
    (sRet (pCallR sp__law_draw xc 0 (pCons (pC (.int 13)) pNil)))
    sNext)
  (sSeq (sIf (pB (pOp (cmpB .Eq) (pVar 1) (pF (pC (.int 1)))))
    (sRet (pCallR sp__law_draw xc 0 (pCons (pC (.int 1000)) pNil)))
    sNext)
  (sSeq (sIf (pB (pOp (cmpB .Eq) (pVar 1) (pF (pC (.int 2)))))
    (sRet (pOp (opB .Add) (pOp (opB .Mult) (pCallR sp__law_draw xc 0 (pCons (pC (.int 1000000)) pNil)) (pF (pC (.int 1000003)))) (pF (pCallR sp__law_draw xc 0 (pCons (pC (.int 1000000)) pNil)))))
    sNext)
  (sSeq (sAsg (pC (.int 0)) (gP 2))
  (sSeq (pFor (iRange1 (pOp (opB .Add) (pC (.int 1)) (pF (pCallR sp__law_draw xc 0 (pCons (pC (.int 6)) pNil))))) (gP 3)
    (sAsg (pOp (opB .Add) (pOp (opB .Mult) (pVar 2) (pF (pC (.int 1000000)))) (pF (pCallR sp__law_draw xc 0 (pCons (pC (.int 1000000)) pNil)))) (gP 2)))
  (sRet (pMove 2))))))))
@[irreducible] def sp__law_number : PSp := semFn 3 1 true b__law_number

/- _law_signed(d): 0 d, 1 found -/
def b__law_signed (xc : XC) : pS :=
  (sSeq (sAsg (pCallR sp__law_number xc 0 pNil) (gP 1))
  (sSeq (sIf (pB (pOp (cmpB .Eq) (pCallR sp__law_draw xc 0 (pCons (pC (.int 3)) pNil)) (pF (pC (.int 0)))))
    (sRet (pUn (unB .USub) (pVar 1)))
    sNext)
  (sRet (pMove 1))))
@[irreducible] def sp__law_signed : PSp := semFn 1 1 true b__law_signed

/- _law_above(d, shares): 0 d, 1 shares, 2 alone, 3 pair, 4 one, 5 two, 6 three, 7 costs, 8 place, 9 part -/
def b__law_above (xc : XC) : pS :=
  (sSeq (sAsg (pOp (opB .Add) (pC (.int 1)) (pF (pCallR sp__law_draw xc 0 (pCons (pC (.int 3)) pNil)))) (gP 2))
  (sSeq (sAsg (pOp (opB .Add) (pC (.int 1)) (pF (pCallR sp__law_draw xc 0 (pCons (pC (.int 3)) pNil)))) (gP 3))
  (sSeq (sAsg (pVar 1) (gTL 3 (gsCons (gP 4) (gsCons (gP 5) (gsCons (gP 6) gsNil)))))
  (sSeq (sAsg (pLc (iVal (pVar 1)) (gP 9) pYes (pOp (opB .Add) (pVar 9) (pF (pCallR sp__law_draw xno 0 (pCons (pVar 2) pNil)))) [9]) (gP 7))
  (sSeq (sAsg (pOp (opB .Add) (pVar 7) (pF (pLc (iVal (pLst (pCons (pOp (opB .Add) (pVar 4) (pPk 5)) (pCons (pOp (opB .Add) (pVar 4) (pPk 6)) (pCons (pOp (opB .Add) (pVar 5) (pPk 6)) pNil))))) (gP 9) pYes (pOp (opB .Add) (pVar 9) (pF (pCallR sp__law_draw xno 0 (pCons (pVar 3) pNil)))) [9]))) (gP 7))
  (sSeq (sDrop (pAppend 7 (pOp (opB .Add) (pOp (opB .Add) (pVar 4) (pPk 5)) (pPk 6))))
  (sSeq (sAsg (pCallR sp__law_draw xc 0 (pCons (pC (.int 9)) pNil)) (gP 8))
  (sSeq (sIf (pB (pOp (cmpB .Lt) (pVar 8) (pF (pC (.int 7)))))
    (sAsg (pOp (opB .Sub) (pOp (opB .Sub) (pIxN 7 (pPk 8)) (pF (pC (.int 1)))) (pF (pCallR sp__law_draw xc 0 (pCons (pC (.int 2)) pNil)))) (gIx 7 (pVar 8)))
    sNext)
  (sRet (pBlt .tuple_ (pLast (pPk 7))))))))))))
@[irreducible] def sp__law_above : PSp := semFn 8 2 true b__law_above

/- _law_costs(d, way): 0 d, 1 way, 2 k -/
def b__law_costs (xc : XC) : pS :=
  (sSeq (sIf (pB (pOp (cmpB .Eq) (pVar 1) (pF (pC (.int 0)))))
    (sRet (pBlt .tuple_ (pLast (pF (pLc (iRange1 (pC (.int 7))) (gP 2) pYes (pOp (opB .Sub) (pCallR sp__law_draw xno 0 (pCons (pC (.int 13)) pNil)) (pF (pC (.int 3)))) [2])))))
    sNext)
  (sSeq (sIf (pB (pOp (cmpB .Lt) (pVar 1) (pF (pC (.int 4)))))
    (sRet (pCallR sp__law_above xc 0 (pCons (pLc (iRange1 (pC (.int 3))) (gP 2) pYes (pOp (opB .Sub) (pCallR sp__law_draw xno 0 (pCons (pC (.int 12)) pNil)) (pF (pC (.int 3)))) [2]) pNil)))
    sNext)
  (sSeq (sIf (pB (pOp (cmpB .Eq) (pVar 1) (pF (pC (.int 4)))))
    (sRet (pCallR sp__law_above xc 0 (pCons (pLc (iRange1 (pC (.int 3))) (gP 2) pYes (pCallR sp__law_signed xno 0 pNil) [2]) pNil)))
    sNext)
  (sRet (pBlt .tuple_ (pLast (pF (pLc (iRange1 (pC (.int 7))) (gP 2) pYes (pCallR sp__law_signed xno 0 pNil) [2]))))))))
@[irreducible] def sp__law_costs : PSp := semFn 1 2 true b__law_costs

/- _law_begin(script): 0 script, 1 cell -/
def b__law_begin (xc : XC) : pS :=
  (sRet (pLst (pCons (pLc (iVal (pVar 0)) (gP 1) pYes (pBlt .int_ (pLast (pPk 1))) [1]) (pCons (pC (.int 0)) (pCons (pC (.int 0)) (pCons (pC (.int 7)) (pCons (pC (.int 3)) pNil)))))))
@[irreducible] def sp__law_begin : PSp := semFn 1 1 false b__law_begin

/- law(script): 0 script, 1 d, 2 way, 3 costs, 4 due, 5 word, 6 row, 7 bad -/
def b_law (xc : XC) : pS :=
  (sSeq (sAsg (pCall sp__law_begin xc (pCons (pVar 0) pNil)) (gP 1))
  (sSeq (sAsg (pCallR sp__law_draw xc 1 (pCons (pC (.int 6)) pNil)) (gP 2))
  (sSeq (sAsg (pCallR sp__law_costs xc 1 (pCons (pVar 2) pNil)) (gP 3))
  (sSeq (sAsg (pCall sp__law_bar xc (pCons (pVar 3) pNil)) (gP 4))
  (sSeq (sAsg (pCall sp_complaint xc (pCons (pVar 3) pNil)) (gP 5))
  (sSeq (sAsg (pCall sp_fair_shares xc (pCons (pVar 3) pNil)) (gP 6))
  (sSeq (sIf (pAndT (pB (pIsN false (pPk 5))) (pB (pIsN true (pPk 4))))
    (sRet (pC (.bl false)))
    sNext)
  (sSeq (sIf (pAndT (pB (pIsN true (pPk 5))) (pOrT (pNotT (pB (pIsi "str" (pPk 5)))) (pB (pOp (cmpB .NotEq) (pVar 5) (pPk 4)))))
    (sRet (pC (.bl false)))
    sNext)
  (sSeq (sIf (pAndT (pB (pIsN true (pPk 4))) (pB (pIsN true (pPk 6))))
    (sRet (pC (.bl false)))
    sNext)
  (sSeq (sIf (pAndT (pB (pIsN false (pPk 4))) (pNotT (pB (pCall sp__law_greatest_shares xc (pCons (pVar 3) (pCons (pVar 6) pNil))))))
    (sRet (pC (.bl false)))
    sNext)
  (sSeq (sIf (pAndT (pB (pOp (cmpB .Lt) (pVar 2) (pF (pC (.int 4))))) (pNotT (pB (pCall sp__law_tried xc (pCons (pVar 3) (pCons (pVar 6) pNil))))))
    (sRet (pC (.bl false)))
    sNext)
  (sSeq (sIf (pNotT (pB (pCallR sp__law_papers_right xc 1 (pCons (pVar 3) (pCons (pVar 6) pNil)))))
    (sRet (pC (.bl false)))
    sNext)
  (sSeq (sAsg (pCallR sp__law_bad_costs xc 1 (pCons (pVar 3) pNil)) (gP 7))
  (sSeq (sIf (pOrT (pNotT (pB (pCall sp__law_shares_refused xc (pCons (pVar 7) pNil)))) (pNotT (pB (pCall sp__law_complaint_refused xc (pCons (pVar 7) pNil)))))
    (sRet (pC (.bl false)))
    sNext)
  (sRet (pAndV (pOp (cmpB .Eq) (pCall sp_fair_shares xc (pCons (pVar 3) pNil)) (pPk 6)) (pOp (cmpB .Eq) (pCall sp_complaint xc (pCons (pVar 3) pNil)) (pPk 5))))))))))))))))))
@[irreducible] def sp_law : PSp := semFn 7 1 false b_law
end K79
set_option Elab.async false
set_option linter.all false
set_option maxRecDepth 100000
set_option maxHeartbeats 4000000
namespace K79
open PySem PySem.Spec PyProof.Rows L2 PL PLX
def d_is_whole : He.DefD := ⟨("is_whole", none), "is_whole", "is_whole", defArgs (top 4), defBody (top 4), defScope (top 4), [], []⟩
def S_is_whole : SC := ⟨["value"], defScope (top 4), [], errT, exmT, fldT, freeT, 1, true, none⟩
theorem tie_is_whole (xc : XC) : stB (sem 60) S_is_whole xc (d_is_whole).body = b_is_whole xc := by kernel_rfl
theorem sc_is_whole : FnScope (S_is_whole).N ["value"] (S_is_whole).sc := ⟨rfl, rfl, rfl, by decide +kernel, rfl, by decide +kernel, by decide +kernel⟩
def d_check_costs : He.DefD := ⟨("check_costs", none), "check_costs", "check_costs", defArgs (top 11), defBody (top 11), defScope (top 11), [], []⟩
def S_check_costs : SC := ⟨["costs", "cost"], defScope (top 11), [("is_whole", .fn 1 0 false b_is_whole)], errT, exmT, fldT, freeT, 2, true, none⟩
theorem tie_check_costs (xc : XC) : stB (sem 60) S_check_costs xc (d_check_costs).body = b_check_costs xc := by kernel_rfl
theorem sc_check_costs : FnScope (S_check_costs).N ["costs"] (S_check_costs).sc := ⟨rfl, rfl, rfl, by decide +kernel, rfl, by decide +kernel, by decide +kernel⟩
def d_complaint : He.DefD := ⟨("complaint", none), "complaint", "complaint", defArgs (top 12), defBody (top 12), defScope (top 12), [], []⟩
def S_complaint : SC := ⟨["costs", "first", "second", "third", "front", "outer", "back", "together"], defScope (top 12), [("check_costs", .fn 1 1 false b_check_costs)], errT, exmT, fldT, freeT, 3, true, none⟩
theorem tie_complaint (xc : XC) : stB (sem 60) S_complaint xc (d_complaint).body = b_complaint xc := by kernel_rfl
theorem sc_complaint : FnScope (S_complaint).N ["costs"] (S_complaint).sc := ⟨rfl, rfl, rfl, by decide +kernel, rfl, by decide +kernel, by decide +kernel⟩
def d_fair_shares : He.DefD := ⟨("fair_shares", none), "fair_shares", "fair_shares", defArgs (top 13), defBody (top 13), defScope (top 13), [], []⟩
def S_fair_shares : SC := ⟨["costs", "first", "second", "third", "front", "outer", "back", "together", "least_second", "least_third", "one", "two"], defScope (top 13), [("complaint", .fn 1 7 false b_complaint)], errT, exmT, fldT, freeT, 4, true, none⟩
theorem tie_fair_shares (xc : XC) : stB (sem 60) S_fair_shares xc (d_fair_shares).body = b_fair_shares xc := by kernel_rfl
theorem sc_fair_shares : FnScope (S_fair_shares).N ["costs"] (S_fair_shares).sc := ⟨rfl, rfl, rfl, by decide +kernel, rfl, by decide +kernel, by decide +kernel⟩
def d__law_complaint_refused : He.DefD := ⟨("_law_complaint_refused", none), "_law_complaint_refused", "_law_complaint_refused", defArgs (top 40), defBody (top 40), defScope (top 40), [], []⟩
def S__law_complaint_refused : SC := ⟨["costs", "raised"], defScope (top 40), [("complaint", .fn 1 7 false b_complaint)], errT, exmT, fldT, freeT, 4, true, none⟩
theorem tie__law_complaint_refused (xc : XC) : stB (sem 60) S__law_complaint_refused xc (d__law_complaint_refused).body = b__law_complaint_refused xc := by kernel_rfl
theorem sc__law_complaint_refused : FnScope (S__law_complaint_refused).N ["costs"] (S__law_complaint_refused).sc := ⟨rfl, rfl, rfl, by decide +kernel, rfl, by decide +kernel, by decide +kernel⟩
def d__law_shares_refused : He.DefD := ⟨("_law_shares_refused", none), "_law_shares_refused", "_law_shares_refused", defArgs (top 39), defBody (top 39), defScope (top 39), [], []⟩
def S__law_shares_refused : SC := ⟨["costs", "raised"], defScope (top 39), [("fair_shares", .fn 1 11 false b_fair_shares)], errT, exmT, fldT, freeT, 5, true, none⟩
theorem tie__law_shares_refused (xc : XC) : stB (sem 60) S__law_shares_refused xc (d__law_shares_refused).body = b__law_shares_refused xc := by kernel_rfl
theorem sc__law_shares_refused : FnScope (S__law_shares_refused).N ["costs"] (S__law_shares_refused).sc := ⟨rfl, rfl, rfl, by decide +kernel, rfl, by decide +kernel, by decide +kernel⟩
def d__law_draw : He.DefD := ⟨("_law_draw", none), "_law_draw", "_law_draw", defArgs (top 17), defBody (top 17), defScope (top 17), [], []⟩
def S__law_draw : SC := ⟨["d", "many", "found", "size", "cell"], defScope (top 17), [], errT, exmT, fldT, freeT, 1, true, none⟩
theorem tie__law_draw (xc : XC) : stB (sem 60) S__law_draw xc (d__law_draw).body = b__law_draw xc := by kernel_rfl
theorem sc__law_draw : FnScope (S__law_draw).N ["d", "many"] (S__law_draw).sc := ⟨rfl, rfl, rfl, by decide +kernel, rfl, by decide +kernel, by decide +kernel⟩
def d__law_bad_costs : He.DefD := ⟨("_law_bad_costs", none), "_law_bad_costs", "_law_bad_costs", defArgs (top 38), defBody (top 38), defScope (top 38), [], []⟩
def S__law_bad_costs : SC := ⟨["d", "costs", "way", "place", "odd"], defScope (top 38), [("_law_draw", .fn 2 3 true b__law_draw)], errT, exmT, fldT, freeT, 2, true, none⟩
theorem tie__law_bad_costs (xc : XC) : stB (sem 60) S__law_bad_costs xc (d__law_bad_costs).body = b__law_bad_costs xc := by kernel_rfl
theorem sc__law_bad_costs : FnScope (S__law_bad_costs).N ["d", "costs"] (S__law_bad_costs).sc := ⟨rfl, rfl, rfl, by decide +kernel, rfl, by decide +kernel, by decide +kernel⟩
def d__law_common : He.DefD := ⟨("_law_common", none), "_law_common", "_law_common", defArgs (top 20), defBody (top 20), defScope (top 20), [], []⟩
def S__law_common : SC := ⟨["a", "b"], defScope (top 20), [], errT, exmT, fldT, freeT, 1, true, none⟩
theorem tie__law_common (xc : XC) : stB (sem 60) S__law_common xc (d__law_common).body = b__law_common xc := by kernel_rfl
theorem sc__law_common : FnScope (S__law_common).N ["a", "b"] (S__law_common).sc := ⟨rfl, rfl, rfl, by decide +kernel, rfl, by decide +kernel, by decide +kernel⟩
def d__law_fraction : He.DefD := ⟨("_law_fraction", none), "_law_fraction", "_law_fraction", defArgs (top 21), defBody (top 21), defScope (top 21), [], []⟩
def S__law_fraction : SC := ⟨["above", "bottom", "share"], defScope (top 21), [("_law_common", .fn 2 0 false b__law_common)], errT, exmT, fldT, freeT, 2, true, none⟩
theorem tie__law_fraction (xc : XC) : stB (sem 60) S__law_fraction xc (d__law_fraction).body = b__law_fraction xc := by kernel_rfl
theorem sc__law_fraction : FnScope (S__law_fraction).N ["above", "bottom"] (S__law_fraction).sc := ⟨rfl, rfl, rfl, by decide +kernel, rfl, by decide +kernel, by decide +kernel⟩
def d__law_plus : He.DefD := ⟨("_law_plus", none), "_law_plus", "_law_plus", defArgs (top 24), defBody (top 24), defScope (top 24), [], []⟩
def S__law_plus : SC := ⟨["one", "other"], defScope (top 24), [("_law_fraction", .fn 2 1 false b__law_fraction)], errT, exmT, fldT, freeT, 3, true, none⟩
theorem tie__law_plus (xc : XC) : stB (sem 60) S__law_plus xc (d__law_plus).body = b__law_plus xc := by kernel_rfl
theorem sc__law_plus : FnScope (S__law_plus).N ["one", "other"] (S__law_plus).sc := ⟨rfl, rfl, rfl, by decide +kernel, rfl, by decide +kernel, by decide +kernel⟩
def d__law_paid : He.DefD := ⟨("_law_paid", none), "_law_paid", "_law_paid", defArgs (top 35), defBody (top 35), defScope (top 35), [], []⟩
def S__law_paid : SC := ⟨["shares", "group", "found", "house"], defScope (top 35), [("_law_plus", .fn 2 0 false b__law_plus)], errT, exmT, fldT, freeT, 4, true, none⟩
theorem tie__law_paid (xc : XC) : stB (sem 60) S__law_paid xc (d__law_paid).body = b__law_paid xc := by kernel_rfl
theorem sc__law_paid : FnScope (S__law_paid).N ["shares", "group"] (S__law_paid).sc := ⟨rfl, rfl, rfl, by decide +kernel, rfl, by decide +kernel, by decide +kernel⟩
def d__law_below : He.DefD := ⟨("_law_below", none), "_law_below", "_law_below", defArgs (top 22), defBody (top 22), defScope (top 22), [], []⟩
def S__law_below : SC := ⟨["one", "other"], defScope (top 22), [], errT, exmT, fldT, freeT, 1, true, none⟩
theorem tie__law_below (xc : XC) : stB (sem 60) S__law_below xc (d__law_below).body = b__law_below xc := by kernel_rfl
theorem sc__law_below : FnScope (S__law_below).N ["one", "other"] (S__law_below).sc := ⟨rfl, rfl, rfl, by decide +kernel, rfl, by decide +kernel, by decide +kernel⟩
def d__law_fair_paper : He.DefD := ⟨("_law_fair_paper", none), "_law_fair_paper", "_law_fair_paper", defArgs (top 36), defBody (top 36), defScope (top 36), [], []⟩
def S__law_fair_paper : SC := ⟨["costs", "shares", "groups", "k"], defScope (top 36), [("_law_paid", .fn 2 2 false b__law_paid), ("_law_below", .fn 2 0 false b__law_below)], errT, exmT, fldT, freeT, 5, true, none⟩
theorem tie__law_fair_paper (xc : XC) : stB (sem 60) S__law_fair_paper xc (d__law_fair_paper).body = b__law_fair_paper xc := by kernel_rfl
theorem sc__law_fair_paper : FnScope (S__law_fair_paper).N ["costs", "shares"] (S__law_fair_paper).sc := ⟨rfl, rfl, rfl, by decide +kernel, rfl, by decide +kernel, by decide +kernel⟩
def d_compare : He.DefD := ⟨("compare", none), "compare", "compare", defArgs (top 8), defBody (top 8), defScope (top 8), [], []⟩
def S_compare : SC := ⟨["one", "other", "left", "right"], defScope (top 8), [], errT, exmT, fldT, freeT, 1, true, none⟩
theorem tie_compare (xc : XC) : stB (sem 60) S_compare xc (d_compare).body = b_compare xc := by kernel_rfl
theorem sc_compare : FnScope (S_compare).N ["one", "other"] (S_compare).sc := ⟨rfl, rfl, rfl, by decide +kernel, rfl, by decide +kernel, by decide +kernel⟩
def d_common : He.DefD := ⟨("common", none), "common", "common", defArgs (top 5), defBody (top 5), defScope (top 5), [], []⟩
def S_common : SC := ⟨["one", "other"], defScope (top 5), [], errT, exmT, fldT, freeT, 1, true, none⟩
theorem tie_common (xc : XC) : stB (sem 60) S_common xc (d_common).body = b_common xc := by kernel_rfl
theorem sc_common : FnScope (S_common).N ["one", "other"] (S_common).sc := ⟨rfl, rfl, rfl, by decide +kernel, rfl, by decide +kernel, by decide +kernel⟩
def d_fraction : He.DefD := ⟨("fraction", none), "fraction", "fraction", defArgs (top 6), defBody (top 6), defScope (top 6), [], []⟩
def S_fraction : SC := ⟨["top", "bottom", "shared_part"], defScope (top 6), [("common", .fn 2 0 false b_common)], errT, exmT, fldT, freeT, 2, true, none⟩
theorem tie_fraction (xc : XC) : stB (sem 60) S_fraction xc (d_fraction).body = b_fraction xc := by kernel_rfl
theorem sc_fraction : FnScope (S_fraction).N ["top", "bottom"] (S_fraction).sc := ⟨rfl, rfl, rfl, by decide +kernel, rfl, by decide +kernel, by decide +kernel⟩
def d_plus : He.DefD := ⟨("plus", none), "plus", "plus", defArgs (top 7), defBody (top 7), defScope (top 7), [], []⟩
def S_plus : SC := ⟨["one", "other"], defScope (top 7), [("fraction", .fn 2 1 false b_fraction)], errT, exmT, fldT, freeT, 3, true, none⟩
theorem tie_plus (xc : XC) : stB (sem 60) S_plus xc (d_plus).body = b_plus xc := by kernel_rfl
theorem sc_plus : FnScope (S_plus).N ["one", "other"] (S_plus).sc := ⟨rfl, rfl, rfl, by decide +kernel, rfl, by decide +kernel, by decide +kernel⟩
def d_are_fair : He.DefD := ⟨("are_fair", none), "are_fair", "are_fair", defArgs (top 14), defBody (top 14), defScope (top 14), [], []⟩
def S_are_fair : SC := ⟨["costs", "shares", "number", "group", "paid", "house", "here"], defScope (top 14), [("compare", .fn 2 2 false b_compare), ("plus", .fn 2 0 false b_plus), ("GROUPS", .con c_GROUPS)], errT, exmT, fldT, freeT, 4, true, none⟩
theorem tie_are_fair (xc : XC) : stB (sem 60) S_are_fair xc (d_are_fair).body = b_are_fair xc := by kernel_rfl
theorem sc_are_fair : FnScope (S_are_fair).N ["costs", "shares"] (S_are_fair).sc := ⟨rfl, rfl, rfl, by decide +kernel, rfl, by decide +kernel, by decide +kernel⟩
def d__law_minus : He.DefD := ⟨("_law_minus", none), "_law_minus", "_law_minus", defArgs (top 23), defBody (top 23), defScope (top 23), [], []⟩
def S__law_minus : SC := ⟨["one", "other"], defScope (top 23), [("_law_fraction", .fn 2 1 false b__law_fraction)], errT, exmT, fldT, freeT, 3, true, none⟩
theorem tie__law_minus (xc : XC) : stB (sem 60) S__law_minus xc (d__law_minus).body = b__law_minus xc := by kernel_rfl
theorem sc__law_minus : FnScope (S__law_minus).N ["one", "other"] (S__law_minus).sc := ⟨rfl, rfl, rfl, by decide +kernel, rfl, by decide +kernel, by decide +kernel⟩
def d__law_paper : He.DefD := ⟨("_law_paper", none), "_law_paper", "_law_paper", defArgs (top 34), defBody (top 34), defScope (top 34), [], []⟩
def S__law_paper : SC := ⟨["d", "row", "shares", "turn", "amount", "giver", "taker", "part"], defScope (top 34), [("_law_draw", .fn 2 3 true b__law_draw), ("_law_plus", .fn 2 0 false b__law_plus), ("_law_minus", .fn 2 0 false b__law_minus), ("_law_fraction", .fn 2 1 false b__law_fraction)], errT, exmT, fldT, freeT, 4, true, none⟩
theorem tie__law_paper (xc : XC) : stB (sem 60) S__law_paper xc (d__law_paper).body = b__law_paper xc := by kernel_rfl
theorem sc__law_paper : FnScope (S__law_paper).N ["d", "row"] (S__law_paper).sc := ⟨rfl, rfl, rfl, by decide +kernel, rfl, by decide +kernel, by decide +kernel⟩
def d__law_papers_right : He.DefD := ⟨("_law_papers_right", none), "_law_papers_right", "_law_papers_right", defArgs (top 37), defBody (top 37), defScope (top 37), [], []⟩
def S__law_papers_right : SC := ⟨["d", "costs", "row", "turn", "paper", "told"], defScope (top 37), [("_law_fair_paper", .fn 2 2 false b__law_fair_paper), ("are_fair", .fn 2 5 false b_are_fair), ("_law_paper", .fn 2 6 true b__law_paper)], errT, exmT, fldT, freeT, 6, true, none⟩
theorem tie__law_papers_right (xc : XC) : stB (sem 60) S__law_papers_right xc (d__law_papers_right).body = b__law_papers_right xc := by kernel_rfl
theorem sc__law_papers_right : FnScope (S__law_papers_right).N ["d", "costs", "row"] (S__law_papers_right).sc := ⟨rfl, rfl, rfl, by decide +kernel, rfl, by decide +kernel, by decide +kernel⟩
def d__law_is_even : He.DefD := ⟨("_law_is_even", none), "_law_is_even", "_law_is_even", defArgs (top 31), defBody (top 31), defScope (top 31), [], []⟩
def S__law_is_even : SC := ⟨["row", "part"], defScope (top 31), [], errT, exmT, fldT, freeT, 1, true, none⟩
theorem tie__law_is_even (xc : XC) : stB (sem 60) S__law_is_even xc (d__law_is_even).body = b__law_is_even xc := by kernel_rfl
theorem sc__law_is_even : FnScope (S__law_is_even).N ["row"] (S__law_is_even).sc := ⟨rfl, rfl, rfl, by decide +kernel, rfl, by decide +kernel, by decide +kernel⟩
def d__law_fair : He.DefD := ⟨("_law_fair", none), "_law_fair", "_law_fair", defArgs (top 29), defBody (top 29), defScope (top 29), [], []⟩
def S__law_fair : SC := ⟨["costs", "row", "factor", "one", "two", "three", "paid", "k"], defScope (top 29), [], errT, exmT, fldT, freeT, 1, true, none⟩
theorem tie__law_fair (xc : XC) : stB (sem 60) S__law_fair xc (d__law_fair).body = b__law_fair xc := by kernel_rfl
theorem sc__law_fair : FnScope (S__law_fair).N ["costs", "row", "factor"] (S__law_fair).sc := ⟨rfl, rfl, rfl, by decide +kernel, rfl, by decide +kernel, by decide +kernel⟩
def d__law_halves : He.DefD := ⟨("_law_halves", none), "_law_halves", "_law_halves", defArgs (top 30), defBody (top 30), defScope (top 30), [], []⟩
def S__law_halves : SC := ⟨["costs", "found", "one", "two", "row"], defScope (top 30), [("_law_fair", .fn 3 5 false b__law_fair)], errT, exmT, fldT, freeT, 2, true, none⟩
theorem tie__law_halves (xc : XC) : stB (sem 60) S__law_halves xc (d__law_halves).body = b__law_halves xc := by kernel_rfl
theorem sc__law_halves : FnScope (S__law_halves).N ["costs"] (S__law_halves).sc := ⟨rfl, rfl, rfl, by decide +kernel, rfl, by decide +kernel, by decide +kernel⟩
def d__law_tried : He.DefD := ⟨("_law_tried", none), "_law_tried", "_law_tried", defArgs (top 33), defBody (top 33), defScope (top 33), [], []⟩
def S__law_tried : SC := ⟨["costs", "row", "found", "whole", "part"], defScope (top 33), [("_law_is_even", .fn 1 1 false b__law_is_even), ("_law_halves", .fn 1 4 false b__law_halves)], errT, exmT, fldT, freeT, 3, true, none⟩
theorem tie__law_tried (xc : XC) : stB (sem 60) S__law_tried xc (d__law_tried).body = b__law_tried xc := by kernel_rfl
theorem sc__law_tried : FnScope (S__law_tried).N ["costs", "row"] (S__law_tried).sc := ⟨rfl, rfl, rfl, by decide +kernel, rfl, by decide +kernel, by decide +kernel⟩
def d__law_is_int : He.DefD := ⟨("_law_is_int", none), "_law_is_int", "_law_is_int", defArgs (top 18), defBody (top 18), defScope (top 18), [], []⟩
def S__law_is_int : SC := ⟨["thing"], defScope (top 18), [], errT, exmT, fldT, freeT, 1, true, none⟩
theorem tie__law_is_int (xc : XC) : stB (sem 60) S__law_is_int xc (d__law_is_int).body = b__law_is_int xc := by kernel_rfl
theorem sc__law_is_int : FnScope (S__law_is_int).N ["thing"] (S__law_is_int).sc := ⟨rfl, rfl, rfl, by decide +kernel, rfl, by decide +kernel, by decide +kernel⟩
def d__law_greatest_shares : He.DefD := ⟨("_law_greatest_shares", none), "_law_greatest_shares", "_law_greatest_shares", defArgs (top 32), defBody (top 32), defScope (top 32), [], []⟩
def S__law_greatest_shares : SC := ⟨["costs", "row", "part"], defScope (top 32), [("_law_fair", .fn 3 5 false b__law_fair), ("_law_is_int", .fn 1 0 false b__law_is_int)], errT, exmT, fldT, freeT, 2, true, none⟩
theorem tie__law_greatest_shares (xc : XC) : stB (sem 60) S__law_greatest_shares xc (d__law_greatest_shares).body = b__law_greatest_shares xc := by kernel_rfl
theorem sc__law_greatest_shares : FnScope (S__law_greatest_shares).N ["costs", "row"] (S__law_greatest_shares).sc := ⟨rfl, rfl, rfl, by decide +kernel, rfl, by decide +kernel, by decide +kernel⟩
def d__law_bar : He.DefD := ⟨("_law_bar", none), "_law_bar", "_law_bar", defArgs (top 28), defBody (top 28), defScope (top 28), [], []⟩
def S__law_bar : SC := ⟨["costs", "whole"], defScope (top 28), [], errT, exmT, fldT, freeT, 1, true, none⟩
theorem tie__law_bar (xc : XC) : stB (sem 60) S__law_bar xc (d__law_bar).body = b__law_bar xc := by kernel_rfl
theorem sc__law_bar : FnScope (S__law_bar).N ["costs"] (S__law_bar).sc := ⟨rfl, rfl, rfl, by decide +kernel, rfl, by decide +kernel, by decide +kernel⟩
def d__law_number : He.DefD := ⟨("_law_number", none), "_law_number", "_law_number", defArgs (top 19), defBody (top 19), defScope (top 19), [], []⟩
def S__law_number : SC := ⟨["d", "way", "found", "k"], defScope (top 19), [("_law_draw", .fn 2 3 true b__law_draw)], errT, exmT, fldT, freeT, 2, true, none⟩
theorem tie__law_number (xc : XC) : stB (sem 60) S__law_number xc (d__law_number).body = b__law_number xc := by kernel_rfl
theorem sc__law_number : FnScope (S__law_number).N ["d"] (S__law_number).sc := ⟨rfl, rfl, rfl, by decide +kernel, rfl, by decide +kernel, by decide +kernel⟩
def d__law_signed : He.DefD := ⟨("_law_signed", none), "_law_signed", "_law_signed", defArgs (top 25), defBody (top 25), defScope (top 25), [], []⟩
def S__law_signed : SC := ⟨["d", "found"], defScope (top 25), [("_law_draw", .fn 2 3 true b__law_draw), ("_law_number", .fn 1 3 true b__law_number)], errT, exmT, fldT, freeT, 3, true, none⟩
theorem tie__law_signed (xc : XC) : stB (sem 60) S__law_signed xc (d__law_signed).body = b__law_signed xc := by kernel_rfl
theorem sc__law_signed : FnScope (S__law_signed).N ["d"] (S__law_signed).sc := ⟨rfl, rfl, rfl, by decide +kernel, rfl, by decide +kernel, by decide +kernel⟩
def d__law_above : He.DefD := ⟨("_law_above", none), "_law_above", "_law_above", defArgs (top 26), defBody (top 26), defScope (top 26), [], []⟩
def S__law_above : SC := ⟨["d", "shares", "alone", "pair", "one", "two", "three", "costs", "place", "part"], defScope (top 26), [("_law_draw", .fn 2 3 true b__law_draw)], errT, exmT, fldT, freeT, 2, true, none⟩
theorem tie__law_above (xc : XC) : stB (sem 60) S__law_above xc (d__law_above).body = b__law_above xc := by kernel_rfl
theorem sc__law_above : FnScope (S__law_above).N ["d", "shares"] (S__law_above).sc := ⟨rfl, rfl, rfl, by decide +kernel, rfl, by decide +kernel, by decide +kernel⟩
def d__law_costs : He.DefD := ⟨("_law_costs", none), "_law_costs", "_law_costs", defArgs (top 27), defBody (top 27), defScope (top 27), [], []⟩
def S__law_costs : SC := ⟨["d", "way", "k"], defScope (top 27), [("_law_signed", .fn 1 1 true b__law_signed), ("_law_above", .fn 2 8 true b__law_above), ("_law_draw", .fn 2 3 true b__law_draw)], errT, exmT, fldT, freeT, 4, true, none⟩
theorem tie__law_costs (xc : XC) : stB (sem 60) S__law_costs xc (d__law_costs).body = b__law_costs xc := by kernel_rfl
theorem sc__law_costs : FnScope (S__law_costs).N ["d", "way"] (S__law_costs).sc := ⟨rfl, rfl, rfl, by decide +kernel, rfl, by decide +kernel, by decide +kernel⟩
def d__law_begin : He.DefD := ⟨("_law_begin", none), "_law_begin", "_law_begin", defArgs (top 16), defBody (top 16), defScope (top 16), [], []⟩
def S__law_begin : SC := ⟨["script", "cell"], defScope (top 16), [], errT, exmT, fldT, freeT, 1, true, none⟩
theorem tie__law_begin (xc : XC) : stB (sem 60) S__law_begin xc (d__law_begin).body = b__law_begin xc := by kernel_rfl
theorem sc__law_begin : FnScope (S__law_begin).N ["script"] (S__law_begin).sc := ⟨rfl, rfl, rfl, by decide +kernel, rfl, by decide +kernel, by decide +kernel⟩
def d_law : He.DefD := ⟨("law", none), "law", "law", defArgs (top 41), defBody (top 41), defScope (top 41), [], []⟩
def S_law : SC := ⟨["script", "d", "way", "costs", "due", "word", "row", "bad"], defScope (top 41), [("complaint", .fn 1 7 false b_complaint), ("fair_shares", .fn 1 11 false b_fair_shares), ("_law_complaint_refused", .fn 1 1 false b__law_complaint_refused), ("_law_shares_refused", .fn 1 1 false b__law_shares_refused), ("_law_bad_costs", .fn 2 3 true b__law_bad_costs), ("_law_papers_right", .fn 3 3 true b__law_papers_right), ("_law_tried", .fn 2 3 false b__law_tried), ("_law_greatest_shares", .fn 2 1 false b__law_greatest_shares), ("_law_bar", .fn 1 1 false b__law_bar), ("_law_costs", .fn 2 1 true b__law_costs), ("_law_draw", .fn 2 3 true b__law_draw), ("_law_begin", .fn 1 1 false b__law_begin)], errT, exmT, fldT, freeT, 7, true, none⟩
theorem tie_law (xc : XC) : stB (sem 60) S_law xc (d_law).body = b_law xc := by kernel_rfl
theorem sc_law : FnScope (S_law).N ["script"] (S_law).sc := ⟨rfl, rfl, rfl, by decide +kernel, rfl, by decide +kernel, by decide +kernel⟩
def fnT : List He.DefD := [d_is_whole, d_check_costs, d_complaint, d_fair_shares, d__law_complaint_refused, d__law_shares_refused, d__law_draw, d__law_bad_costs, d__law_common, d__law_fraction, d__law_plus, d__law_paid, d__law_below, d__law_fair_paper, d_compare, d_common, d_fraction, d_plus, d_are_fair, d__law_minus, d__law_paper, d__law_papers_right, d__law_is_even, d__law_fair, d__law_halves, d__law_tried, d__law_is_int, d__law_greatest_shares, d__law_bar, d__law_number, d__law_signed, d__law_above, d__law_costs, d__law_begin, d_law]
abbrev e_BadArgument : Stmt := inClass (top 2) 0
def o_BadArgument : OwD := ⟨"BadArgument", "BadArgument.__init__", defArgs e_BadArgument, defBody e_BadArgument, defScope e_BadArgument, ["reason"]⟩
def owT : List OwD := [o_BadArgument]
def faT : List He.Fa := [(.glo "is_whole"), (.glo "check_costs"), (.glo "complaint"), (.glo "fair_shares"), (.glo "_law_complaint_refused"), (.glo "_law_shares_refused"), (.glo "_law_draw"), (.glo "_law_bad_costs"), (.glo "_law_common"), (.glo "_law_fraction"), (.glo "_law_plus"), (.glo "_law_paid"), (.glo "_law_below"), (.glo "_law_fair_paper"), (.glo "compare"), (.glo "common"), (.glo "fraction"), (.glo "plus"), (.glo "are_fair"), (.glo "_law_minus"), (.glo "_law_paper"), (.glo "_law_papers_right"), (.glo "_law_is_even"), (.glo "_law_fair"), (.glo "_law_halves"), (.glo "_law_tried"), (.glo "_law_is_int"), (.glo "_law_greatest_shares"), (.glo "_law_bar"), (.glo "_law_number"), (.glo "_law_signed"), (.glo "_law_above"), (.glo "_law_costs"), (.glo "_law_begin"), (.glo "law"), (.free "abs"), (.free "all"), (.free "bool"), (.free "enumerate"), (.free "int"), (.free "isinstance"), (.free "len"), (.free "list"), (.free "max"), (.free "min"), (.free "range"), (.free "str"), (.free "tuple")]
def tb : Tb := ⟨faT, fnT, owT, conT, exmT, fldT, PySem.Challenge.pw_shelfmill_k79_fair_shares.main.file⟩
section
variable {w : World} {K : PySem.W.Frag} {mg : Str → Option Value} {base : Heap} {h : Heap}
abbrev Pr : Program := PySem.Challenge.pw_shelfmill_k79_fair_shares
theorem os_BadArgument : OwnS Pr (o_BadArgument).params (o_BadArgument).scope (o_BadArgument).fs where
  hd := ⟨_, rfl, rfl⟩
  sup := by first | rfl | decide +kernel
  cls := by first | rfl | decide +kernel
  slf := by first | rfl | decide +kernel
  loc := by decide +kernel
  top := by first | rfl | decide +kernel
  cell := by decide +kernel
  co := rfl
  gen := rfl
  kind := rfl
  nd := by decide +kernel
  bind := fun _ _ _ _ _ _ _ _ _ _ us hl => match us, hl with | [_, _], _ => .of_eq (by first | rfl | with_unfolding_all rfl)
theorem or_BadArgument : FldRows (o_BadArgument).fs ((o_BadArgument).body.tail) := (FldRows.cons FldRows.nil (by decide))
theorem com (c : SaysP tb K) (X : K.In h) (G : h.Ns mainGlobals mg) (d : SC) (e1 : d.errs = errT) (e2 : d.exm = exmT) (e3 : d.flds = fldT) (e4 : d.free = freeT) : Com d Pr K mg where
  err := fun y f fs hy => by
    rw [e1] at hy
    unfold errT at hy
    rw [List.lookup_cons] at hy
    split at hy
    · rename_i z
      cases hy
      rw [beq_iff_eq.mp z]
      obtain ⟨h1, C, fI, h2, h3⟩ := c.ow_ (P := Pr) X G 0 (o := o_BadArgument) rfl rfl
      exact ⟨h1, C, fI, _, _, _, _, _, _, _, _, _, _, _, _, h2, by decide +kernel, h3, os_BadArgument, or_BadArgument, by decide⟩
    cases hy
  exm := fun y z b hy => by rw [e2] at hy; rw [e3]; exact c.exm_ X G hy
  free := fun x hx => by
    rw [e4] at hx
    have key : ∀ y ∈ freeT, He.Fa.free y ∈ faT := by
      intro y hy
      simp only [freeT, List.mem_cons, List.not_mem_nil, or_false] at hy
      simp only [faT, List.mem_cons, He.Fa.free.injEq, reduceCtorEq, false_or]
      simpa using hy
    exact He.free_ok X G (c.fact (key x hx))
theorem has_is_whole (c : SaysP tb K) (X : K.In h) (G : h.Ns mainGlobals mg) : Has Pr w K mg base 2 "is_whole" 1 0 false b_is_whole :=
  has_def (n := 60) (S := S_is_whole) (d := d_is_whole) (ps := ["value"]) (c.def_ 0 rfl rfl rfl) (He.glo_ok X G (c.fact (f := .glo "is_whole") (by simp [tb, faT]))) rfl sc_is_whole rfl rfl rfl (fun _ _ _ _ _ _ us hl => match us, hl with | [_], _ => rfl) tie_is_whole (com c X G S_is_whole rfl rfl rfl rfl)
    gok_nil
theorem has_check_costs (c : SaysP tb K) (X : K.In h) (G : h.Ns mainGlobals mg) : Has Pr w K mg base 3 "check_costs" 1 1 false b_check_costs :=
  has_def (n := 60) (S := S_check_costs) (d := d_check_costs) (ps := ["costs"]) (c.def_ 1 rfl rfl rfl) (He.glo_ok X G (c.fact (f := .glo "check_costs") (by simp [tb, faT]))) rfl sc_check_costs rfl rfl rfl (fun _ _ _ _ _ _ us hl => match us, hl with | [_], _ => rfl) tie_check_costs (com c X G S_check_costs rfl rfl rfl rfl)
    (gok_fn (has_is_whole c X G) (by decide) gok_nil)
theorem has_complaint (c : SaysP tb K) (X : K.In h) (G : h.Ns mainGlobals mg) : Has Pr w K mg base 4 "complaint" 1 7 false b_complaint :=
  has_def (n := 60) (S := S_complaint) (d := d_complaint) (ps := ["costs"]) (c.def_ 2 rfl rfl rfl) (He.glo_ok X G (c.fact (f := .glo "complaint") (by simp [tb, faT]))) rfl sc_complaint rfl rfl rfl (fun _ _ _ _ _ _ us hl => match us, hl with | [_], _ => rfl) tie_complaint (com c X G S_complaint rfl rfl rfl rfl)
    (gok_fn (has_check_costs c X G) (by decide) gok_nil)
theorem has_fair_shares (c : SaysP tb K) (X : K.In h) (G : h.Ns mainGlobals mg) : Has Pr w K mg base 5 "fair_shares" 1 11 false b_fair_shares :=
  has_def (n := 60) (S := S_fair_shares) (d := d_fair_shares) (ps := ["costs"]) (c.def_ 3 rfl rfl rfl) (He.glo_ok X G (c.fact (f := .glo "fair_shares") (by simp [tb, faT]))) rfl sc_fair_shares rfl rfl rfl (fun _ _ _ _ _ _ us hl => match us, hl with | [_], _ => rfl) tie_fair_shares (com c X G S_fair_shares rfl rfl rfl rfl)
    (gok_fn (has_complaint c X G) (by decide) gok_nil)
theorem has__law_complaint_refused (c : SaysP tb K) (X : K.In h) (G : h.Ns mainGlobals mg) : Has Pr w K mg base 5 "_law_complaint_refused" 1 1 false b__law_complaint_refused :=
  has_def (n := 60) (S := S__law_complaint_refused) (d := d__law_complaint_refused) (ps := ["costs"]) (c.def_ 4 rfl rfl rfl) (He.glo_ok X G (c.fact (f := .glo "_law_complaint_refused") (by simp [tb, faT]))) rfl sc__law_complaint_refused rfl rfl rfl (fun _ _ _ _ _ _ us hl => match us, hl with | [_], _ => rfl) tie__law_complaint_refused (com c X G S__law_complaint_refused rfl rfl rfl rfl)
    (gok_fn (has_complaint c X G) (by decide) gok_nil)
theorem has__law_shares_refused (c : SaysP tb K) (X : K.In h) (G : h.Ns mainGlobals mg) : Has Pr w K mg base 6 "_law_shares_refused" 1 1 false b__law_shares_refused :=
  has_def (n := 60) (S := S__law_shares_refused) (d := d__law_shares_refused) (ps := ["costs"]) (c.def_ 5 rfl rfl rfl) (He.glo_ok X G (c.fact (f := .glo "_law_shares_refused") (by simp [tb, faT]))) rfl sc__law_shares_refused rfl rfl rfl (fun _ _ _ _ _ _ us hl => match us, hl with | [_], _ => rfl) tie__law_shares_refused (com c X G S__law_shares_refused rfl rfl rfl rfl)
    (gok_fn (has_fair_shares c X G) (by decide) gok_nil)
theorem has__law_draw (c : SaysP tb K) (X : K.In h) (G : h.Ns mainGlobals mg) : Has Pr w K mg base 2 "_law_draw" 2 3 true b__law_draw :=
  has_def (n := 60) (S := S__law_draw) (d := d__law_draw) (ps := ["d", "many"]) (c.def_ 6 rfl rfl rfl) (He.glo_ok X G (c.fact (f := .glo "_law_draw") (by simp [tb, faT]))) rfl sc__law_draw rfl rfl rfl (fun _ _ _ _ _ _ us hl => match us, hl with | [_, _], _ => rfl) tie__law_draw (com c X G S__law_draw rfl rfl rfl rfl)
    gok_nil
theorem has__law_bad_costs (c : SaysP tb K) (X : K.In h) (G : h.Ns mainGlobals mg) : Has Pr w K mg base 3 "_law_bad_costs" 2 3 true b__law_bad_costs :=
  has_def (n := 60) (S := S__law_bad_costs) (d := d__law_bad_costs) (ps := ["d", "costs"]) (c.def_ 7 rfl rfl rfl) (He.glo_ok X G (c.fact (f := .glo "_law_bad_costs") (by simp [tb, faT]))) rfl sc__law_bad_costs rfl rfl rfl (fun _ _ _ _ _ _ us hl => match us, hl with | [_, _], _ => rfl) tie__law_bad_costs (com c X G S__law_bad_costs rfl rfl rfl rfl)
    (gok_fn (has__law_draw c X G) (by decide) gok_nil)
theorem has__law_common (c : SaysP tb K) (X : K.In h) (G : h.Ns mainGlobals mg) : Has Pr w K mg base 2 "_law_common" 2 0 false b__law_common :=
  has_def (n := 60) (S := S__law_common) (d := d__law_common) (ps := ["a", "b"]) (c.def_ 8 rfl rfl rfl) (He.glo_ok X G (c.fact (f := .glo "_law_common") (by simp [tb, faT]))) rfl sc__law_common rfl rfl rfl (fun _ _ _ _ _ _ us hl => match us, hl with | [_, _], _ => rfl) tie__law_common (com c X G S__law_common rfl rfl rfl rfl)
    gok_nil
theorem has__law_fraction (c : SaysP tb K) (X : K.In h) (G : h.Ns mainGlobals mg) : Has Pr w K mg base 3 "_law_fraction" 2 1 false b__law_fraction :=
  has_def (n := 60) (S := S__law_fraction) (d := d__law_fraction) (ps := ["above", "bottom"]) (c.def_ 9 rfl rfl rfl) (He.glo_ok X G (c.fact (f := .glo "_law_fraction") (by simp [tb, faT]))) rfl sc__law_fraction rfl rfl rfl (fun _ _ _ _ _ _ us hl => match us, hl with | [_, _], _ => rfl) tie__law_fraction (com c X G S__law_fraction rfl rfl rfl rfl)
    (gok_fn (has__law_common c X G) (by decide) gok_nil)
theorem has__law_plus (c : SaysP tb K) (X : K.In h) (G : h.Ns mainGlobals mg) : Has Pr w K mg base 4 "_law_plus" 2 0 false b__law_plus :=
  has_def (n := 60) (S := S__law_plus) (d := d__law_plus) (ps := ["one", "other"]) (c.def_ 10 rfl rfl rfl) (He.glo_ok X G (c.fact (f := .glo "_law_plus") (by simp [tb, faT]))) rfl sc__law_plus rfl rfl rfl (fun _ _ _ _ _ _ us hl => match us, hl with | [_, _], _ => rfl) tie__law_plus (com c X G S__law_plus rfl rfl rfl rfl)
    (gok_fn (has__law_fraction c X G) (by decide) gok_nil)
theorem has__law_paid (c : SaysP tb K) (X : K.In h) (G : h.Ns mainGlobals mg) : Has Pr w K mg base 5 "_law_paid" 2 2 false b__law_paid :=
  has_def (n := 60) (S := S__law_paid) (d := d__law_paid) (ps := ["shares", "group"]) (c.def_ 11 rfl rfl rfl) (He.glo_ok X G (c.fact (f := .glo "_law_paid") (by simp [tb, faT]))) rfl sc__law_paid rfl rfl rfl (fun _ _ _ _ _ _ us hl => match us, hl with | [_, _], _ => rfl) tie__law_paid (com c X G S__law_paid rfl rfl rfl rfl)
    (gok_fn (has__law_plus c X G) (by decide) gok_nil)
theorem has__law_below (c : SaysP tb K) (X : K.In h) (G : h.Ns mainGlobals mg) : Has Pr w K mg base 2 "_law_below" 2 0 false b__law_below :=
  has_def (n := 60) (S := S__law_below) (d := d__law_below) (ps := ["one", "other"]) (c.def_ 12 rfl rfl rfl) (He.glo_ok X G (c.fact (f := .glo "_law_below") (by simp [tb, faT]))) rfl sc__law_below rfl rfl rfl (fun _ _ _ _ _ _ us hl => match us, hl with | [_, _], _ => rfl) tie__law_below (com c X G S__law_below rfl rfl rfl rfl)
    gok_nil
theorem has__law_fair_paper (c : SaysP tb K) (X : K.In h) (G : h.Ns mainGlobals mg) : Has Pr w K mg base 6 "_law_fair_paper" 2 2 false b__law_fair_paper :=
  has_def (n := 60) (S := S__law_fair_paper) (d := d__law_fair_paper) (ps := ["costs", "shares"]) (c.def_ 13 rfl rfl rfl) (He.glo_ok X G (c.fact (f := .glo "_law_fair_paper") (by simp [tb, faT]))) rfl sc__law_fair_paper rfl rfl rfl (fun _ _ _ _ _ _ us hl => match us, hl with | [_, _], _ => rfl) tie__law_fair_paper (com c X G S__law_fair_paper rfl rfl rfl rfl)
    (gok_fn (has__law_paid c X G) (by decide) (gok_fn (has__law_below c X G) (by decide) gok_nil))
theorem has_compare (c : SaysP tb K) (X : K.In h) (G : h.Ns mainGlobals mg) : Has Pr w K mg base 2 "compare" 2 2 false b_compare :=
  has_def (n := 60) (S := S_compare) (d := d_compare) (ps := ["one", "other"]) (c.def_ 14 rfl rfl rfl) (He.glo_ok X G (c.fact (f := .glo "compare") (by simp [tb, faT]))) rfl sc_compare rfl rfl rfl (fun _ _ _ _ _ _ us hl => match us, hl with | [_, _], _ => rfl) tie_compare (com c X G S_compare rfl rfl rfl rfl)
    gok_nil
theorem has_common (c : SaysP tb K) (X : K.In h) (G : h.Ns mainGlobals mg) : Has Pr w K mg base 2 "common" 2 0 false b_common :=
  has_def (n := 60) (S := S_common) (d := d_common) (ps := ["one", "other"]) (c.def_ 15 rfl rfl rfl) (He.glo_ok X G (c.fact (f := .glo "common") (by simp [tb, faT]))) rfl sc_common rfl rfl rfl (fun _ _ _ _ _ _ us hl => match us, hl with | [_, _], _ => rfl) tie_common (com c X G S_common rfl rfl rfl rfl)
    gok_nil
theorem has_fraction (c : SaysP tb K) (X : K.In h) (G : h.Ns mainGlobals mg) : Has Pr w K mg base 3 "fraction" 2 1 false b_fraction :=
  has_def (n := 60) (S := S_fraction) (d := d_fraction) (ps := ["top", "bottom"]) (c.def_ 16 rfl rfl rfl) (He.glo_ok X G (c.fact (f := .glo "fraction") (by simp [tb, faT]))) rfl sc_fraction rfl rfl rfl (fun _ _ _ _ _ _ us hl => match us, hl with | [_, _], _ => rfl) tie_fraction (com c X G S_fraction rfl rfl rfl rfl)
    (gok_fn (has_common c X G) (by decide) gok_nil)
theorem has_plus (c : SaysP tb K) (X : K.In h) (G : h.Ns mainGlobals mg) : Has Pr w K mg base 4 "plus" 2 0 false b_plus :=
  has_def (n := 60) (S := S_plus) (d := d_plus) (ps := ["one", "other"]) (c.def_ 17 rfl rfl rfl) (He.glo_ok X G (c.fact (f := .glo "plus") (by simp [tb, faT]))) rfl sc_plus rfl rfl rfl (fun _ _ _ _ _ _ us hl => match us, hl with | [_, _], _ => rfl) tie_plus (com c X G S_plus rfl rfl rfl rfl)
    (gok_fn (has_fraction c X G) (by decide) gok_nil)
theorem has_are_fair (c : SaysP tb K) (X : K.In h) (G : h.Ns mainGlobals mg) : Has Pr w K mg base 5 "are_fair" 2 5 false b_are_fair :=
  has_def (n := 60) (S := S_are_fair) (d := d_are_fair) (ps := ["costs", "shares"]) (c.def_ 18 rfl rfl rfl) (He.glo_ok X G (c.fact (f := .glo "are_fair") (by simp [tb, faT]))) rfl sc_are_fair rfl rfl rfl (fun _ _ _ _ _ _ us hl => match us, hl with | [_, _], _ => rfl) tie_are_fair (com c X G S_are_fair rfl rfl rfl rfl)
    (gok_fn (has_compare c X G) (by decide) (gok_fn (has_plus c X G) (by decide) (gok_con (c.con X G (x := "GROUPS") (d := c_GROUPS) (by simp [tb, conT])) gok_nil)))
theorem has__law_minus (c : SaysP tb K) (X : K.In h) (G : h.Ns mainGlobals mg) : Has Pr w K mg base 4 "_law_minus" 2 0 false b__law_minus :=
  has_def (n := 60) (S := S__law_minus) (d := d__law_minus) (ps := ["one", "other"]) (c.def_ 19 rfl rfl rfl) (He.glo_ok X G (c.fact (f := .glo "_law_minus") (by simp [tb, faT]))) rfl sc__law_minus rfl rfl rfl (fun _ _ _ _ _ _ us hl => match us, hl with | [_, _], _ => rfl) tie__law_minus (com c X G S__law_minus rfl rfl rfl rfl)
    (gok_fn (has__law_fraction c X G) (by decide) gok_nil)
theorem has__law_paper (c : SaysP tb K) (X : K.In h) (G : h.Ns mainGlobals mg) : Has Pr w K mg base 5 "_law_paper" 2 6 true b__law_paper :=
  has_def (n := 60) (S := S__law_paper) (d := d__law_paper) (ps := ["d", "row"]) (c.def_ 20 rfl rfl rfl) (He.glo_ok X G (c.fact (f := .glo "_law_paper") (by simp [tb, faT]))) rfl sc__law_paper rfl rfl rfl (fun _ _ _ _ _ _ us hl => match us, hl with | [_, _], _ => rfl) tie__law_paper (com c X G S__law_paper rfl rfl rfl rfl)
    (gok_fn (has__law_draw c X G) (by decide) (gok_fn (has__law_plus c X G) (by decide) (gok_fn (has__law_minus c X G) (by decide) (gok_fn (has__law_fraction c X G) (by decide) gok_nil))))
theorem has__law_papers_right (c : SaysP tb K) (X : K.In h) (G : h.Ns mainGlobals mg) : Has Pr w K mg base 7 "_law_papers_right" 3 3 true b__law_papers_right :=
  has_def (n := 60) (S := S__law_papers_right) (d := d__law_papers_right) (ps := ["d", "costs", "row"]) (c.def_ 21 rfl rfl rfl) (He.glo_ok X G (c.fact (f := .glo "_law_papers_right") (by simp [tb, faT]))) rfl sc__law_papers_right rfl rfl rfl (fun _ _ _ _ _ _ us hl => match us, hl with | [_, _, _], _ => rfl) tie__law_papers_right (com c X G S__law_papers_right rfl rfl rfl rfl)
    (gok_fn (has__law_fair_paper c X G) (by decide) (gok_fn (has_are_fair c X G) (by decide) (gok_fn (has__law_paper c X G) (by decide) gok_nil)))
theorem has__law_is_even (c : SaysP tb K) (X : K.In h) (G : h.Ns mainGlobals mg) : Has Pr w K mg base 2 "_law_is_even" 1 1 false b__law_is_even :=
  has_def (n := 60) (S := S__law_is_even) (d := d__law_is_even) (ps := ["row"]) (c.def_ 22 rfl rfl rfl) (He.glo_ok X G (c.fact (f := .glo "_law_is_even") (by simp [tb, faT]))) rfl sc__law_is_even rfl rfl rfl (fun _ _ _ _ _ _ us hl => match us, hl with | [_], _ => rfl) tie__law_is_even (com c X G S__law_is_even rfl rfl rfl rfl)
    gok_nil
theorem has__law_fair (c : SaysP tb K) (X : K.In h) (G : h.Ns mainGlobals mg) : Has Pr w K mg base 2 "_law_fair" 3 5 false b__law_fair :=
  has_def (n := 60) (S := S__law_fair) (d := d__law_fair) (ps := ["costs", "row", "factor"]) (c.def_ 23 rfl rfl rfl) (He.glo_ok X G (c.fact (f := .glo "_law_fair") (by simp [tb, faT]))) rfl sc__law_fair rfl rfl rfl (fun _ _ _ _ _ _ us hl => match us, hl with | [_, _, _], _ => rfl) tie__law_fair (com c X G S__law_fair rfl rfl rfl rfl)
    gok_nil
theorem has__law_halves (c : SaysP tb K) (X : K.In h) (G : h.Ns mainGlobals mg) : Has Pr w K mg base 3 "_law_halves" 1 4 false b__law_halves :=
  has_def (n := 60) (S := S__law_halves) (d := d__law_halves) (ps := ["costs"]) (c.def_ 24 rfl rfl rfl) (He.glo_ok X G (c.fact (f := .glo "_law_halves") (by simp [tb, faT]))) rfl sc__law_halves rfl rfl rfl (fun _ _ _ _ _ _ us hl => match us, hl with | [_], _ => rfl) tie__law_halves (com c X G S__law_halves rfl rfl rfl rfl)
    (gok_fn (has__law_fair c X G) (by decide) gok_nil)
theorem has__law_tried (c : SaysP tb K) (X : K.In h) (G : h.Ns mainGlobals mg) : Has Pr w K mg base 4 "_law_tried" 2 3 false b__law_tried :=
  has_def (n := 60) (S := S__law_tried) (d := d__law_tried) (ps := ["costs", "row"]) (c.def_ 25 rfl rfl rfl) (He.glo_ok X G (c.fact (f := .glo "_law_tried") (by simp [tb, faT]))) rfl sc__law_tried rfl rfl rfl (fun _ _ _ _ _ _ us hl => match us, hl with | [_, _], _ => rfl) tie__law_tried (com c X G S__law_tried rfl rfl rfl rfl)
    (gok_fn (has__law_is_even c X G) (by decide) (gok_fn (has__law_halves c X G) (by decide) gok_nil))
theorem has__law_is_int (c : SaysP tb K) (X : K.In h) (G : h.Ns mainGlobals mg) : Has Pr w K mg base 2 "_law_is_int" 1 0 false b__law_is_int :=
  has_def (n := 60) (S := S__law_is_int) (d := d__law_is_int) (ps := ["thing"]) (c.def_ 26 rfl rfl rfl) (He.glo_ok X G (c.fact (f := .glo "_law_is_int") (by simp [tb, faT]))) rfl sc__law_is_int rfl rfl rfl (fun _ _ _ _ _ _ us hl => match us, hl with | [_], _ => rfl) tie__law_is_int (com c X G S__law_is_int rfl rfl rfl rfl)
    gok_nil
theorem has__law_greatest_shares (c : SaysP tb K) (X : K.In h) (G : h.Ns mainGlobals mg) : Has Pr w K mg base 3 "_law_greatest_shares" 2 1 false b__law_greatest_shares :=
  has_def (n := 60) (S := S__law_greatest_shares) (d := d__law_greatest_shares) (ps := ["costs", "row"]) (c.def_ 27 rfl rfl rfl) (He.glo_ok X G (c.fact (f := .glo "_law_greatest_shares") (by simp [tb, faT]))) rfl sc__law_greatest_shares rfl rfl rfl (fun _ _ _ _ _ _ us hl => match us, hl with | [_, _], _ => rfl) tie__law_greatest_shares (com c X G S__law_greatest_shares rfl rfl rfl rfl)
    (gok_fn (has__law_fair c X G) (by decide) (gok_fn (has__law_is_int c X G) (by decide) gok_nil))
theorem has__law_bar (c : SaysP tb K) (X : K.In h) (G : h.Ns mainGlobals mg) : Has Pr w K mg base 2 "_law_bar" 1 1 false b__law_bar :=
  has_def (n := 60) (S := S__law_bar) (d := d__law_bar) (ps := ["costs"]) (c.def_ 28 rfl rfl rfl) (He.glo_ok X G (c.fact (f := .glo "_law_bar") (by simp [tb, faT]))) rfl sc__law_bar rfl rfl rfl (fun _ _ _ _ _ _ us hl => match us, hl with | [_], _ => rfl) tie__law_bar (com c X G S__law_bar rfl rfl rfl rfl)
    gok_nil
theorem has__law_number (c : SaysP tb K) (X : K.In h) (G : h.Ns mainGlobals mg) : Has Pr w K mg base 3 "_law_number" 1 3 true b__law_number :=
  has_def (n := 60) (S := S__law_number) (d := d__law_number) (ps := ["d"]) (c.def_ 29 rfl rfl rfl) (He.glo_ok X G (c.fact (f := .glo "_law_number") (by simp [tb, faT]))) rfl sc__law_number rfl rfl rfl (fun _ _ _ _ _ _ us hl => match us, hl with | [_], _ => rfl) tie__law_number (com c X G S__law_number rfl rfl rfl rfl)
    (gok_fn (has__law_draw c X G) (by decide) gok_nil)
theorem has__law_signed (c : SaysP tb K) (X : K.In h) (G : h.Ns mainGlobals mg) : Has Pr w K mg base 4 "_law_signed" 1 1 true b__law_signed :=
  has_def (n := 60) (S := S__law_signed) (d := d__law_signed) (ps := ["d"]) (c.def_ 30 rfl rfl rfl) (He.glo_ok X G (c.fact (f := .glo "_law_signed") (by simp [tb, faT]))) rfl sc__law_signed rfl rfl rfl (fun _ _ _ _ _ _ us hl => match us, hl with | [_], _ => rfl) tie__law_signed (com c X G S__law_signed rfl rfl rfl rfl)
    (gok_fn (has__law_draw c X G) (by decide) (gok_fn (has__law_number c X G) (by decide) gok_nil))
theorem has__law_above (c : SaysP tb K) (X : K.In h) (G : h.Ns mainGlobals mg) : Has Pr w K mg base 3 "_law_above" 2 8 true b__law_above :=
  has_def (n := 60) (S := S__law_above) (d := d__law_above) (ps := ["d", "shares"]) (c.def_ 31 rfl rfl rfl) (He.glo_ok X G (c.fact (f := .glo "_law_above") (by simp [tb, faT]))) rfl sc__law_above rfl rfl rfl (fun _ _ _ _ _ _ us hl => match us, hl with | [_, _], _ => rfl) tie__law_above (com c X G S__law_above rfl rfl rfl rfl)
    (gok_fn (has__law_draw c X G) (by decide) gok_nil)
theorem has__law_costs (c : SaysP tb K) (X : K.In h) (G : h.Ns mainGlobals mg) : Has Pr w K mg base 5 "_law_costs" 2 1 true b__law_costs :=
  has_def (n := 60) (S := S__law_costs) (d := d__law_costs) (ps := ["d", "way"]) (c.def_ 32 rfl rfl rfl) (He.glo_ok X G (c.fact (f := .glo "_law_costs") (by simp [tb, faT]))) rfl sc__law_costs rfl rfl rfl (fun _ _ _ _ _ _ us hl => match us, hl with | [_, _], _ => rfl) tie__law_costs (com c X G S__law_costs rfl rfl rfl rfl)
    (gok_fn (has__law_signed c X G) (by decide) (gok_fn (has__law_above c X G) (by decide) (gok_fn (has__law_draw c X G) (by decide) gok_nil)))
theorem has__law_begin (c : SaysP tb K) (X : K.In h) (G : h.Ns mainGlobals mg) : Has Pr w K mg base 2 "_law_begin" 1 1 false b__law_begin :=
  has_def (n := 60) (S := S__law_begin) (d := d__law_begin) (ps := ["script"]) (c.def_ 33 rfl rfl rfl) (He.glo_ok X G (c.fact (f := .glo "_law_begin") (by simp [tb, faT]))) rfl sc__law_begin rfl rfl rfl (fun _ _ _ _ _ _ us hl => match us, hl with | [_], _ => rfl) tie__law_begin (com c X G S__law_begin rfl rfl rfl rfl)
    gok_nil
theorem has_law (c : SaysP tb K) (X : K.In h) (G : h.Ns mainGlobals mg) : Has Pr w K mg base 8 "law" 1 7 false b_law :=
  has_def (n := 60) (S := S_law) (d := d_law) (ps := ["script"]) (c.def_ 34 rfl rfl rfl) (He.glo_ok X G (c.fact (f := .glo "law") (by simp [tb, faT]))) rfl sc_law rfl rfl rfl (fun _ _ _ _ _ _ us hl => match us, hl with | [_], _ => rfl) tie_law (com c X G S_law rfl rfl rfl rfl)
    (gok_fn (has_complaint c X G) (by decide) (gok_fn (has_fair_shares c X G) (by decide) (gok_fn (has__law_complaint_refused c X G) (by decide) (gok_fn (has__law_shares_refused c X G) (by decide) (gok_fn (has__law_bad_costs c X G) (by decide) (gok_fn (has__law_papers_right c X G) (by decide) (gok_fn (has__law_tried c X G) (by decide) (gok_fn (has__law_greatest_shares c X G) (by decide) (gok_fn (has__law_bar c X G) (by decide) (gok_fn (has__law_costs c X G) (by decide) (gok_fn (has__law_draw c X G) (by decide) (gok_fn (has__law_begin c X G) (by decide) gok_nil))))))))))))
end
end K79
set_option Elab.async false
set_option linter.all false
set_option maxRecDepth 100000
set_option maxHeartbeats 4000000
namespace K79
open PySem PySem.Spec PyProof.Rows L2 PL PLX
abbrev R : PySem.W.OpenRow := PySem.W.OpenLaw.row PySem.Challenge.rw_shelfmill_k79_fair_shares
abbrev hk : PySem.W.Hook := hookP 5 tb
def ob (s : PySem.W.SharedT) : AlP := obsPG 5 tb (HandSHeadRun.getT s)
theorem ob_eq (s : PySem.W.SharedT) : ob s = hk.obs s.abs := obsPG_eq (HandSHeadRun.getT_eq s)
theorem run (w : World) : HandSHeadRun.RunEq R (PySem.W.view R.prog [41]) hk ob 2920 ([PySem.Str.ofString "ShelfmillError", PySem.Str.ofString "BadArgument", PySem.Str.ofString "is_whole", PySem.Str.ofString "common", PySem.Str.ofString "fraction", PySem.Str.ofString "plus", PySem.Str.ofString "compare", PySem.Str.ofString "check_costs", PySem.Str.ofString "complaint", PySem.Str.ofString "fair_shares", PySem.Str.ofString "are_fair", PySem.Str.ofString "_law_begin", PySem.Str.ofString "_law_draw", PySem.Str.ofString "_law_is_int", PySem.Str.ofString "_law_number", PySem.Str.ofString "_law_common", PySem.Str.ofString "_law_fraction", PySem.Str.ofString "_law_below", PySem.Str.ofString "_law_minus", PySem.Str.ofString "_law_plus", PySem.Str.ofString "_law_signed", PySem.Str.ofString "_law_above", PySem.Str.ofString "_law_costs", PySem.Str.ofString "_law_bar", PySem.Str.ofString "_law_fair", PySem.Str.ofString "_law_halves", PySem.Str.ofString "_law_is_even", PySem.Str.ofString "_law_greatest_shares", PySem.Str.ofString "_law_tried", PySem.Str.ofString "_law_paper", PySem.Str.ofString "_law_paid", PySem.Str.ofString "_law_fair_paper", PySem.Str.ofString "_law_papers_right", PySem.Str.ofString "_law_bad_costs", PySem.Str.ofString "_law_shares_refused", PySem.Str.ofString "_law_complaint_refused", PySem.Str.ofString "GROUPS"] : List Str) w := by
  intro os
  kernel_rfl
end K79
set_option Elab.async false
set_option linter.all false
set_option maxRecDepth 100000
set_option maxHeartbeats 400000
namespace K79
open PySem PySem.Spec PyProof.Rows L2 PL PLX
def isI : D → Bool
  | .int _ => true
  | _ => false
theorem w_whole {d : D} {P : Sv → Option M → Prop} {PX : Exn → Option M → Prop} (hd : (tyName d).isSome = true) (h : P (.val (.bl (isI d))) none) : sp_is_whole none [d] P PX := by
  unfold sp_is_whole
  refine ⟨⟨rfl, rfl⟩, ?_⟩
  cases d with
  | int i => exact ⟨_, _, rfl, kit_int_int, _, _, rfl, kit_int_bool, trivial, h⟩
  | bl b => exact ⟨_, _, rfl, kit_bool_int, _, _, rfl, kit_bool_bool, trivial, h⟩
  | non => exact ⟨_, _, rfl, kit_none_int, trivial, h⟩
  | str x => exact ⟨_, _, rfl, kit_str_int, trivial, h⟩
  | tup x => exact ⟨_, _, rfl, kit_tuple_int, trivial, h⟩
  | lst x => exact ⟨_, _, rfl, kit_list_int, trivial, h⟩
  | lsq x => cases hd
  | obj c f => cases hd
def goodC : D → Bool
  | .tup ds => ds.length == 7 && ds.all isI
  | _ => false
def badX : Exn := ⟨"BadArgument", [("reason", .str "costs")]⟩
theorem w_check {d : D} {P : Sv → Option M → Prop} {PX : Exn → Option M → Prop} (hd : (tyName d).isSome = true) (hs : ∀ ds, d = .tup ds → ∀ x ∈ ds, (tyName x).isSome = true) (h1 : goodC d = true → P (.val .non) none) (h2 : goodC d = false → PX badX none) : sp_check_costs none [d] P PX := by
  unfold sp_check_costs
  refine ⟨⟨rfl, rfl⟩, ?_⟩
  cases d with
  | int i => exact ⟨_, _, rfl, kit_int_tuple, rfl, h2 rfl⟩
  | bl b => exact ⟨_, _, rfl, kit_bool_tuple, rfl, h2 rfl⟩
  | non => exact ⟨_, _, rfl, kit_none_tuple, rfl, h2 rfl⟩
  | str x => exact ⟨_, _, rfl, kit_str_tuple, rfl, h2 rfl⟩
  | lst x => exact ⟨_, _, rfl, kit_list_tuple, rfl, h2 rfl⟩
  | lsq x => cases hd
  | obj c f => cases hd
  | tup ds =>
    refine ⟨_, _, rfl, kit_tuple_tuple, _, rfl, ?_⟩
    refine if2 (fun h => ?_) (fun h => ?_)
    · refine ⟨rfl, h2 ?_⟩
      have : ¬ ((ds.length : Int) = 7) := by simpa using h
      have : ¬ ds.length = 7 := by omega
      simp [goodC, this]
    · have hl : ds.length = 7 := by
        have : ((ds.length : Int) = 7) := by simpa using h
        omega
      refine forL_ix (fun i e => (∀ (j : Nat) x, j < i → ds[j]? = some x → isI x = true) ∧ ∃ o, e = [some (.val (.tup ds)), o] ∧ isBor (some o) = false) ⟨fun j x hj => absurd hj (Nat.not_lt_zero j), _, rfl, rfl⟩ (fun i d e N hi hI hN => ?_) (fun e hI => ?_)
      · obtain ⟨hI, o, rfl, ho⟩ := hI
        have hx := hs ds rfl d (List.mem_of_getElem? hi)
        refine ⟨nb ho, ?_⟩
        refine w_whole hx ⟨trivial, ?_⟩
        refine if2 (fun h => ?_) (fun h => ?_)
        · refine ⟨rfl, h2 ?_⟩
          have hf : isI d = false := by simpa using h
          have : ds.all isI = false := by
            rw [List.all_eq_false]
            exact ⟨d, List.mem_of_getElem? hi, by rw [hf]; simp⟩
          simp [goodC, this]
        · refine hN _ ⟨fun j x hj hx => ?_, _, rfl, rfl⟩
          have ht : isI d = true := by simpa using h
          by_cases e : j = i
          · subst e
            rw [hi] at hx
            cases hx
            exact ht
          · exact hI j x (by omega) hx
      · refine h1 ?_
        have : ds.all isI = true := by
          rw [List.all_eq_true]
          intro x hx
          obtain ⟨j, hj, e⟩ := List.mem_iff_getElem.mp hx
          exact hI.1 j x hj (by rw [List.getElem?_eq_getElem hj, e])
        simp [goodC, hl, this]

/-- the costs -/
def cD (a b c f o k t : Int) : D := .tup [.int a, .int b, .int c, .int f, .int o, .int k, .int t]
def min2 (i j : Int) : Int := if j < i then j else i
def barD (a b c f o k t : Int) : D := if a + b + c < t then .str "alone" else if min2 (min2 (f + c) (o + b)) (k + a) < t then .str "two" else if f + o + k < 2 * t then .str "pairs" else .non
section
variable {a b c f o k t : Int} {P : Sv → Option M → Prop} {PX : Exn → Option M → Prop}
theorem ty_c : ∀ ds, cD a b c f o k t = .tup ds → ∀ x ∈ ds, (tyName x).isSome = true := fun ds e x hx => by
  cases e
  simp at hx
  rcases hx with rfl | rfl | rfl | rfl | rfl | rfl | rfl <;> rfl
theorem w_complaint (h : P (.val (barD a b c f o k t)) none) : sp_complaint none [cD a b c f o k t] P PX := by
  unfold sp_complaint
  refine ⟨⟨rfl, rfl⟩, ?_⟩
  refine w_check rfl ty_c (fun _ => ⟨trivial, ?_⟩) (fun h => by cases h)
  refine ⟨_, _, rfl, rfl, rfl, ?_⟩
  refine ⟨nb rfl, nb rfl, nb rfl, nb rfl, nb rfl, nb rfl, nb rfl, rfl, ?_⟩
  unfold barD at h
  refine ifd (fun h1 => ?_) (fun h1 => ?_)
  · rw [if_pos h1] at h
    exact ⟨trivial, h⟩
  rw [if_neg h1] at h
  refine ifd (fun h2 => ?_) (fun h2 => ?_)
  · have h2 : min2 (min2 (f + c) (o + b)) (k + a) < t := h2
    rw [if_pos h2] at h
    exact ⟨trivial, h⟩
  have h2 : ¬ min2 (min2 (f + c) (o + b)) (k + a) < t := h2
  rw [if_neg h2] at h
  refine ⟨cml (by decide), ?_⟩
  refine ifd (fun h3 => ?_) (fun h3 => ?_)
  · rw [if_pos h3] at h
    exact ⟨trivial, h⟩
  rw [if_neg h3] at h
  exact ⟨trivial, h⟩
theorem w_complaint_bad {d : D} (hd : (tyName d).isSome = true) (hs : ∀ ds, d = .tup ds → ∀ x ∈ ds, (tyName x).isSome = true) (hg : goodC d = false) (h : PX badX none) : sp_complaint none [d] P PX := by
  unfold sp_complaint
  refine ⟨⟨rfl, rfl⟩, ?_⟩
  exact w_check hd hs (fun h => by rw [hg] at h; cases h) fun _ => h
def fairD (a b c f o k t : Int) : D := match barD a b c f o k t with
  | .non => .tup [.int (min2 a (t - (t - o) - (t - f))), .int (min2 b (t - min2 a (t - (t - o) - (t - f)) - (t - f))), .int (t - min2 a (t - (t - o) - (t - f)) - min2 b (t - min2 a (t - (t - o) - (t - f)) - (t - f)))]
  | _ => .non
theorem bar_cases : barD a b c f o k t = .non ∨ ∃ x, barD a b c f o k t = .str x := by
  unfold barD
  split
  · exact .inr ⟨_, rfl⟩
  split
  · exact .inr ⟨_, rfl⟩
  split
  · exact .inr ⟨_, rfl⟩
  · exact .inl rfl
theorem w_fair_shares (h : P (.val (fairD a b c f o k t)) none) : sp_fair_shares none [cD a b c f o k t] P PX := by
  unfold sp_fair_shares
  refine ⟨⟨rfl, rfl⟩, ?_⟩
  refine w_complaint ⟨trivial, ?_⟩
  unfold fairD at h
  rcases bar_cases (a := a) (b := b) (c := c) (f := f) (o := o) (k := k) (t := t) with e | ⟨x, e⟩
  · rw [e] at h ⊢
    refine ⟨_, _, rfl, rfl, rfl, ?_⟩
    refine ⟨nb rfl, nb rfl, nb rfl, nb rfl, nb rfl, nb rfl, nb rfl, rfl, ?_⟩
    refine norm [vd (cD a b c f o k t), vi a, vi b, vi c, vi f, vi o, vi k, vi t, v0, v0, v0, v0] rfl ?_
    refine ⟨nb rfl, nb rfl, nb rfl, nb rfl, ?_⟩
    refine norm [vd (cD a b c f o k t), vi a, vi b, vi c, vi f, vi o, vi k, vi t, vi (t - o), vi (t - f), vi (min2 a (t - (t - o) - (t - f))), vi (min2 b (t - min2 a (t - (t - o) - (t - f)) - (t - f)))] rfl ?_
    refine ⟨sl (n := 3) (by decide), trivial, ?_⟩
    exact h
  · rw [e] at h ⊢
    exact ⟨trivial, h⟩
theorem w_fair_bad {d : D} (hd : (tyName d).isSome = true) (hs : ∀ ds, d = .tup ds → ∀ x ∈ ds, (tyName x).isSome = true) (hg : goodC d = false) (h : PX badX none) : sp_fair_shares none [d] P PX := by
  unfold sp_fair_shares
  refine ⟨⟨rfl, rfl⟩, ?_⟩
  exact w_complaint_bad hd hs hg h
theorem w_bar (h : P (.val (barD a b c f o k t)) none) : sp__law_bar none [cD a b c f o k t] P PX := by
  unfold sp__law_bar
  refine ⟨⟨rfl, rfl⟩, ?_⟩
  unfold barD at h
  refine ⟨⟨_, rfl⟩, _, rfl, nb rfl, ?_⟩
  refine norm [vd (cD a b c f o k t), vi t] rfl ?_
  refine ⟨⟨_, rfl⟩, _, rfl, ⟨_, rfl⟩, _, rfl, ⟨_, rfl⟩, _, rfl, ?_⟩
  refine ifd (fun h1 => ?_) (fun h1 => ?_)
  · rw [if_pos h1] at h
    exact ⟨trivial, h⟩
  rw [if_neg h1] at h
  have end_ : ¬ min2 (min2 (f + c) (o + b)) (k + a) < t → (if f + o + k < 2 * t then P (.val (.str "pairs")) none else P (.val .non) none) := fun h2 => by
    rw [if_neg h2] at h
    split at h
    · rename_i h3; rw [if_pos h3]; exact h
    · rename_i h3; rw [if_neg h3]; exact h
  have two : min2 (min2 (f + c) (o + b)) (k + a) < t → P (.val (.str "two")) none := fun h2 => by
    rw [if_pos h2] at h
    exact h
  refine ⟨⟨_, rfl⟩, _, rfl, ⟨_, rfl⟩, _, rfl, ?_⟩
  refine ifd (fun h2 => ?_) (fun h2 => ?_)
  · exact ⟨trivial, two (by unfold min2; split <;> split <;> omega)⟩
  refine ⟨⟨_, rfl⟩, _, rfl, ⟨_, rfl⟩, _, rfl, ?_⟩
  refine ifd (fun h3 => ?_) (fun h3 => ?_)
  · exact ⟨trivial, two (by unfold min2; split <;> split <;> omega)⟩
  refine ⟨⟨_, rfl⟩, _, rfl, ⟨_, rfl⟩, _, rfl, ?_⟩
  refine ifd (fun h4 => ?_) (fun h4 => ?_)
  · exact ⟨trivial, two (by unfold min2; split <;> split <;> omega)⟩
  have e := end_ (by unfold min2; split <;> split <;> omega)
  refine ⟨⟨_, rfl⟩, _, rfl, ⟨_, rfl⟩, _, rfl, ⟨_, rfl⟩, _, rfl, cml (by decide), ?_⟩
  refine ifd (fun h5 => ?_) (fun h5 => ?_)
  · rw [if_pos h5] at e
    exact ⟨trivial, e⟩
  · rw [if_neg h5] at e
    exact ⟨trivial, e⟩
theorem w_refC {d : D} (hd : (tyName d).isSome = true) (hs : ∀ ds, d = .tup ds → ∀ x ∈ ds, (tyName x).isSome = true) (hg : goodC d = false) (h : P (.val (.bl true)) none) : sp__law_complaint_refused none [d] P PX := by
  unfold sp__law_complaint_refused
  refine ⟨⟨rfl, rfl⟩, ?_⟩
  refine w_complaint_bad hd hs hg ?_
  refine ⟨true, by decide +kernel, fun _ => ?_, fun z => by cases z⟩
  refine ⟨_, true, rfl, by decide +kernel, ?_⟩
  refine ⟨_, rfl, .str "costs", rfl, _, rfl, trivial, trivial, ?_⟩
  exact h
theorem w_refF {d : D} (hd : (tyName d).isSome = true) (hs : ∀ ds, d = .tup ds → ∀ x ∈ ds, (tyName x).isSome = true) (hg : goodC d = false) (h : P (.val (.bl true)) none) : sp__law_shares_refused none [d] P PX := by
  unfold sp__law_shares_refused
  refine ⟨⟨rfl, rfl⟩, ?_⟩
  refine w_fair_bad hd hs hg ?_
  refine ⟨true, by decide +kernel, fun _ => ?_, fun z => by cases z⟩
  refine ⟨_, true, rfl, by decide +kernel, ?_⟩
  refine ⟨_, rfl, .str "costs", rfl, _, rfl, trivial, trivial, ?_⟩
  exact h
end
end K79
set_option Elab.async false
set_option linter.all false
set_option maxRecDepth 100000
set_option maxHeartbeats 400000
namespace K79
open PySem PySem.Spec PyProof.Rows L2 PL PLX
def dS (cs : List Int) (a b c x : Int) : M := .lst [.lst (cs.map .int), .int a, .int b, .int c, .int x]
def DSt (m : M) : Prop := ∃ cs a b c x, m = dS cs a b c x ∧ 0 ≤ a
abbrev vb (m : M) : Option Sv := some (.bor m)
section
variable {P : Sv → Option M → Prop} {PX : Exn → Option M → Prop} {m : M} {n : Int}
theorem at_int {cs : List Int} {a : Int} (h0 : 0 ≤ a) (h1 : a < cs.length) : ∃ v, cs[a.toNat]? = some v ∧ atI (cs.map D.int) a = some (.int v) := by
  have hl : a.toNat < cs.length := by omega
  refine ⟨cs[a.toNat], by simp [hl], ?_⟩
  unfold atI ixN
  rw [if_pos h0, if_pos (by rw [List.length_map]; exact h1)]
  simp [hl]
theorem cdiv {i : Int} (h0 : 0 < n) (hn : n < 2 ^ 30) : CDivW i n := ⟨h0, by
  have : Sm 30 n := by unfold Sm; omega
  have := this.log (by decide)
  omega⟩
theorem w_draw (hm : DSt m) (h0 : 0 < n) (hn : n < 2 ^ 30) (h : ∀ r m', DSt m' → 0 ≤ r → r < n → P (.val (.int r)) (some m')) : sp__law_draw (some m) [.int n] P PX := by
  unfold sp__law_draw
  refine ⟨⟨rfl, rfl⟩, ?_⟩
  obtain ⟨cs, a, b, c, x, rfl, ha⟩ := hm
  have fin : ∀ (v : Int) cs a b c x, 0 ≤ a → P (.val (.int (v % n))) (some (dS cs a b c x)) := fun v cs a b c x ha => h _ _ ⟨cs, a, b, c, x, rfl, ha⟩ (Int.emod_nonneg _ (by omega)) (Int.emod_lt_of_pos _ h0)
  refine ⟨⟨_, rfl⟩, _, rfl, ?_⟩
  refine ifd (fun h1 => ?_) (fun h1 => ?_)
  · refine ⟨⟨_, rfl⟩, _, rfl, nb rfl, ?_⟩
    refine norm [vb (dS cs a b c x), vi n, vi b, v0, v0] rfl ?_
    refine ⟨cdiv h0 hn, _, rfl, ⟨_, rfl, rfl⟩, _, _, _, _, rfl, rfl, rfl, rfl, ?_⟩
    refine norm [vb (dS cs a (b / n) c x), vi n, vi b, v0, v0] rfl ?_
    exact ⟨h0, trivial, fin b cs a (b / n) c x ha⟩
  refine ⟨nb rfl, ?_⟩
  refine norm [vb (dS cs a b c x), vi n, v0, vi 0, v0] rfl ?_
  have tail : ∀ (s : Int) o, (sSeq (sAugIx 0 (pC (.int 1)) (pC (.int 1)))
  (sSeq (sIf (pB (pOp (cmpB .GtE) (pVar 3) (pF (pOp (opB .Mult) (pC (.int 2)) (pF (pOp (opB .Pow) (pC (.int 10)) (pF (pC (.int 18)))))))))
    (sSeq (sAsg (pOp (opB .Mod) (pBlt .int_ (pLast (pF (pOp (opB .FloorDiv) (pVar 3) (pF (pC (.int 2))))))) (pF (pOp (opB .LShift) (pC (.int 1)) (pF (pC (.int 6000)))))) (gP 2))
    (sSeq (sAsg (pOp (opB .FloorDiv) (pVar 2) (pPk 1)) (gIx 0 (pC (.int 2))))
    (sRet (pOp (opB .Mod) (pBlt .int_ (pLast (pPk 2))) (pPk 1)))))
    sNext)
  (sSeq (sAsg (pOp (opB .Mod) (pBlt .int_ (pLast (pF (pOp (opB .Add) (pOp (opB .Add) (pOp (opB .Add) (pOp (opB .Mult) (pIxN 0 (pF (pC (.int 3)))) (pF (pC (.int 48271)))) (pF (pOp (opB .Mult) (pOp (opB .Mod) (pBlt .int_ (pLast (pPk 3))) (pF (pC (.int 2147483629)))) (pF (pC (.int 16807)))))) (pF (pOp (opB .Mult) (pIxN 0 (pF (pC (.int 1)))) (pF (pC (.int 69621)))))) (pF (pC (.int 11))))))) (pF (pC (.int 2147483647)))) (gIx 0 (pC (.int 3))))
  (sRet (pOp (opB .Mod) (pBlt .int_ (pLast (pF (pOp (opB .FloorDiv) (pIxN 0 (pF (pC (.int 3)))) (pF (pC (.int 16))))))) (pPk 1))))))
      { nx := fun e => finR true e (P (.val .non)), rt := fun sv e => isOut sv ∧ finR true e (P sv), bk := fun _ => False, ct := fun _ => False } [vb (dS cs a b c x), vi n, v0, vi s, o] := fun s o => by
    refine ⟨⟨_, rfl, rfl⟩, 1, _, _, a, rfl, by decide, rfl, rfl, rfl, _, _, _, _, rfl, rfl, rfl, rfl, ?_⟩
    refine norm [vb (dS cs (a + 1) b c x), vi n, v0, vi s, o] rfl ?_
    refine ⟨⟨by decide, by decide, by decide⟩, cml (by decide), ?_⟩
    refine ifd (fun h1 => ?_) (fun h1 => ?_)
    · refine ⟨cdiv (by decide) (by decide), ⟨by decide, by decide, by decide⟩, Int.mul_pos (by decide) (Int.pow_pos (by decide)), nb rfl, ?_⟩
      generalize (s / 2 % (1 * 2 ^ (6000 : Int).toNat)) = v
      refine norm [vb (dS cs (a + 1) b c x), vi n, vi v, vi s, o] rfl ?_
      refine ⟨cdiv h0 hn, _, rfl, ⟨_, rfl, rfl⟩, _, _, _, _, rfl, rfl, rfl, rfl, ?_⟩
      refine norm [vb (dS cs (a + 1) (v / n) c x), vi n, vi v, vi s, o] rfl ?_
      exact ⟨h0, trivial, fin v _ _ _ _ _ (by omega)⟩
    · refine ⟨⟨_, rfl⟩, _, rfl, cmr (by decide), by decide, cmr (by decide), ⟨_, rfl⟩, _, rfl, cmr (by decide), by decide, ?_⟩
      refine ⟨_, rfl, ⟨_, rfl, rfl⟩, _, _, _, _, rfl, rfl, rfl, rfl, ?_⟩
      generalize ((c * 48271 + s % 2147483629 * 16807 + (a + 1) * 69621 + 11) % 2147483647) = v
      refine norm [vb (dS cs (a + 1) b v x), vi n, v0, vi s, o] rfl ?_
      exact ⟨⟨_, rfl⟩, _, rfl, cdiv (by decide) (by decide), h0, trivial, fin _ _ _ _ _ _ (by omega)⟩
  refine ⟨⟨_, rfl⟩, _, rfl, ⟨_, rfl⟩, _, rfl, ?_⟩
  refine ifd (fun h2 => ?_) (fun h2 => ?_)
  · have h2 : a < ((cs.map D.int).length : Nat) := h2
    rw [List.length_map] at h2
    obtain ⟨v, _, hv⟩ := at_int ha h2
    refine ⟨⟨_, rfl⟩, _, rfl, ⟨_, rfl⟩, _, rfl, _, hv, nb rfl, ?_⟩
    refine norm [vb (dS cs a b c x), vi n, v0, vi 0, vi v] rfl ?_
    refine ⟨cml (by decide), nb rfl, ?_⟩
    exact tail _ _
  · exact tail 0 _
end
end K79
set_option Elab.async false
set_option linter.all false
set_option maxRecDepth 100000
set_option maxHeartbeats 400000
namespace K79
open PySem PySem.Spec PyProof.Rows L2 PL PLX
section
variable {P : Sv → Option M → Prop} {PX : Exn → Option M → Prop} {m : M} {n : Int}
theorem sm_of {k : Nat} {x : Int} (h0 : -(2 ^ k) < x) (h1 : x < 2 ^ k) : Sm k x := by
  unfold Sm
  have : ((2 ^ k : Nat) : Int) = 2 ^ k := by norm_cast
  omega
theorem sm20 {x : Int} (h0 : 0 ≤ x) (h1 : x < 1000000) : Sm 20 x := by unfold Sm; omega
theorem w_number (hm : DSt m) (h : ∀ r m', DSt m' → Sm 200 r → P (.val (.int r)) (some m')) : sp__law_number (some m) [] P PX := by
  unfold sp__law_number
  refine ⟨⟨rfl, rfl⟩, ?_⟩
  refine ⟨⟨_, _, rfl, rfl⟩, _, _, rfl, rfl, w_draw hm (by decide) (by decide) fun way m hm g0 g1 => ⟨trivial, _, rfl, nb rfl, ?_⟩⟩
  refine norm [vb m, vi way, v0, v0] rfl ?_
  refine ⟨_, rfl, ?_⟩
  refine ifd (fun h1 => ?_) (fun h1 => ?_)
  · refine ⟨⟨_, _, rfl, rfl⟩, _, _, rfl, rfl, w_draw hm (by decide) (by decide) fun r m hm r0 r1 => ⟨trivial, _, rfl, trivial, ?_⟩⟩
    exact h r m hm (by unfold Sm; omega)
  refine ⟨_, rfl, ?_⟩
  refine ifd (fun h2 => ?_) (fun h2 => ?_)
  · refine ⟨⟨_, _, rfl, rfl⟩, _, _, rfl, rfl, w_draw hm (by decide) (by decide) fun r m hm r0 r1 => ⟨trivial, _, rfl, trivial, ?_⟩⟩
    exact h r m hm (by unfold Sm; omega)
  refine ⟨_, rfl, ?_⟩
  refine ifd (fun h3 => ?_) (fun h3 => ?_)
  · refine ⟨⟨_, _, rfl, rfl⟩, _, _, rfl, rfl, w_draw hm (by decide) (by decide) fun r m hm r0 r1 => ⟨trivial, _, rfl, ?_⟩⟩
    refine ⟨cmr (by decide), ?_⟩
    refine ⟨⟨_, _, rfl, rfl⟩, _, _, rfl, rfl, w_draw hm (by decide) (by decide) fun q m hm q0 q1 => ⟨trivial, _, rfl, trivial, ?_⟩⟩
    exact h _ m hm (by unfold Sm; omega)
  refine ⟨nb rfl, ?_⟩
  refine norm [vb m, vi way, vi 0, v0] rfl ?_
  refine ⟨⟨_, _, rfl, rfl⟩, _, _, rfl, rfl, w_draw hm (by decide) (by decide) fun r m hm r0 r1 => ⟨trivial, _, rfl, ?_⟩⟩
  refine ⟨_, rfl, ⟨by omega, by omega⟩, ?_⟩
  refine forL_ix (fun i e => ∃ m found o, DSt m ∧ Sm (25 * i) found ∧ e = [vb m, vi way, vi found, o] ∧ isBor (some o) = false) ⟨m, 0, _, hm, by unfold Sm; decide, rfl, rfl⟩ (fun i d e N hi hI hN => ?_) (fun e hI => ?_)
  · obtain ⟨m, found, o, hm, hs, rfl, ho⟩ := hI
    obtain ⟨z, rfl⟩ : ∃ z, d = .int z := by
      unfold rangeD at hi
      rw [List.getElem?_map] at hi
      cases e : (List.range (1 + r).toNat)[i]? with
      | none => rw [e] at hi; cases hi
      | some j => rw [e] at hi; exact ⟨_, (Option.some.inj hi).symm⟩
    refine ⟨nb ho, cmr (by decide), ?_⟩
    refine norm [vb m, vi way, vi found, vi z] rfl ?_
    refine ⟨⟨_, _, rfl, rfl⟩, _, _, rfl, rfl, w_draw hm (by decide) (by decide) fun q m hm q0 q1 => ⟨trivial, _, rfl, nb rfl, ?_⟩⟩
    refine hN _ ⟨m, found * 1000000 + q, _, hm, ?_, rfl, rfl⟩
    have h1 : Sm (25 * i + 20) (found * 1000000) := hs.mul (by unfold Sm; decide)
    have h2 : Sm (25 * i + 20) q := (sm20 q0 q1).mono (by omega)
    exact (h1.add h2).mono (by omega)
  · obtain ⟨m, found, o, hm, hs, rfl, ho⟩ := hI
    refine ⟨trivial, h found m hm (hs.mono ?_)⟩
    unfold rangeD
    rw [List.length_map, List.length_range]
    omega
theorem w_signed (hm : DSt m) (h : ∀ r m', DSt m' → Sm 200 r → P (.val (.int r)) (some m')) : sp__law_signed (some m) [] P PX := by
  unfold sp__law_signed
  refine ⟨⟨rfl, rfl⟩, ?_⟩
  refine ⟨⟨_, _, rfl, rfl⟩, _, _, rfl, rfl, w_number hm fun r m hm hr => ⟨trivial, _, rfl, nb rfl, ?_⟩⟩
  refine norm [vb m, vi r] rfl ?_
  refine ⟨⟨_, _, rfl, rfl⟩, _, _, rfl, rfl, w_draw hm (by decide) (by decide) fun q m hm q0 q1 => ⟨trivial, _, rfl, ?_⟩⟩
  refine ⟨_, rfl, ?_⟩
  refine ifd (fun h1 => ?_) (fun h1 => ?_)
  · exact ⟨trivial, h _ m hm hr.neg⟩
  · exact ⟨trivial, h _ m hm hr⟩
/-- the costs' size -/
def Bd (B : Int) (cs : List Int) : Prop := ∀ x ∈ cs, -B ≤ x ∧ x ≤ B
theorem w_above {p q r B : Int} (hm : DSt m) (hB : 0 ≤ B) (hb : Bd B [p, q, r]) (h : ∀ cs m', DSt m' → cs.length = 7 → Bd (3 * B + 4) cs → P (.val (.tup (cs.map D.int))) (some m')) : sp__law_above (some m) [.lst [.int p, .int q, .int r]] P PX := by
  unfold sp__law_above
  refine ⟨⟨rfl, rfl⟩, ?_⟩
  obtain ⟨p0, p1⟩ := hb p (by simp)
  obtain ⟨q0, q1⟩ := hb q (by simp)
  obtain ⟨r0, r1⟩ := hb r (by simp)
  refine ⟨⟨_, _, rfl, rfl⟩, _, _, rfl, rfl, w_draw hm (by decide) (by decide) fun al m hm a0 a1 => ⟨trivial, _, rfl, nb rfl, ?_⟩⟩
  refine norm [vb m, vd (.lst [.int p, .int q, .int r]), vi (1 + al), v0, v0, v0, v0, v0, v0, v0] rfl ?_
  refine ⟨⟨_, _, rfl, rfl⟩, _, _, rfl, rfl, w_draw hm (by decide) (by decide) fun pa m hm b0 b1 => ⟨trivial, _, rfl, nb rfl, ?_⟩⟩
  refine norm [vb m, vd (.lst [.int p, .int q, .int r]), vi (1 + al), vi (1 + pa), v0, v0, v0, v0, v0, v0] rfl ?_
  refine ⟨_, _, rfl, rfl, rfl, nb rfl, nb rfl, nb rfl, rfl, ?_⟩
  refine norm [vb m, vd (.lst [.int p, .int q, .int r]), vi (1 + al), vi (1 + pa), vi p, vi q, vi r, v0, v0, v0] rfl ?_
  -- the first list
  refine ⟨nb rfl, ?_⟩
  refine ⟨⟨_, _, rfl, rfl⟩, _, _, rfl, rfl, w_draw hm (by omega) (by omega) fun x1 m hm x10 x11 => ⟨trivial, _, rfl, sl (n := 1) (by decide), ?_⟩⟩
  refine norml [vb m, vd (.lst [.int p, .int q, .int r]), vi (1 + al), vi (1 + pa), vi p, vi q, vi r, v0, v0, vi p] rfl ?_
  refine ⟨nb rfl, ?_⟩
  refine ⟨⟨_, _, rfl, rfl⟩, _, _, rfl, rfl, w_draw hm (by omega) (by omega) fun x2 m hm x20 x21 => ⟨trivial, _, rfl, sl (n := 2) (by decide), ?_⟩⟩
  refine norml [vb m, vd (.lst [.int p, .int q, .int r]), vi (1 + al), vi (1 + pa), vi p, vi q, vi r, v0, v0, vi q] rfl ?_
  refine ⟨nb rfl, ?_⟩
  refine ⟨⟨_, _, rfl, rfl⟩, _, _, rfl, rfl, w_draw hm (by omega) (by omega) fun x3 m hm x30 x31 => ⟨trivial, _, rfl, sl (n := 3) (by decide), ?_⟩⟩
  refine ⟨nb rfl, ?_⟩
  refine norm [vb m, vd (.lst [.int p, .int q, .int r]), vi (1 + al), vi (1 + pa), vi p, vi q, vi r, vo [.int (p + x1), .int (q + x2), .int (r + x3)], v0, v0] rfl ?_
  -- the second
  refine ⟨sl (n := 3) (by decide), nb rfl, ?_⟩
  refine ⟨⟨_, _, rfl, rfl⟩, _, _, rfl, rfl, w_draw hm (by omega) (by omega) fun y1 m hm y10 y11 => ⟨trivial, _, rfl, sl (n := 1) (by decide), ?_⟩⟩
  refine norml [vb m, vd (.lst [.int p, .int q, .int r]), vi (1 + al), vi (1 + pa), vi p, vi q, vi r, vd (.lst [.int (p + x1), .int (q + x2), .int (r + x3)]), v0, vi (p + q)] rfl ?_
  refine ⟨nb rfl, ?_⟩
  refine ⟨⟨_, _, rfl, rfl⟩, _, _, rfl, rfl, w_draw hm (by omega) (by omega) fun y2 m hm y20 y21 => ⟨trivial, _, rfl, sl (n := 2) (by decide), ?_⟩⟩
  refine norml [vb m, vd (.lst [.int p, .int q, .int r]), vi (1 + al), vi (1 + pa), vi p, vi q, vi r, vd (.lst [.int (p + x1), .int (q + x2), .int (r + x3)]), v0, vi (p + r)] rfl ?_
  refine ⟨nb rfl, ?_⟩
  refine ⟨⟨_, _, rfl, rfl⟩, _, _, rfl, rfl, w_draw hm (by omega) (by omega) fun y3 m hm y30 y31 => ⟨trivial, _, rfl, sl (n := 3) (by decide), ?_⟩⟩
  refine ⟨sl (n := 6) (by decide), nb rfl, ?_⟩
  refine norm [vb m, vd (.lst [.int p, .int q, .int r]), vi (1 + al), vi (1 + pa), vi p, vi q, vi r, vo [.int (p + x1), .int (q + x2), .int (r + x3), .int (p + q + y1), .int (p + r + y2), .int (q + r + y3)], v0, v0] rfl ?_
  refine ⟨⟨_, rfl, rfl⟩, _, _, rfl, rfl, Nat.lt_of_lt_of_le (by decide : 6 < 7) (sl (n := 7) (by decide)), ?_⟩
  refine norm [vb m, vd (.lst [.int p, .int q, .int r]), vi (1 + al), vi (1 + pa), vi p, vi q, vi r, vo [.int (p + x1), .int (q + x2), .int (r + x3), .int (p + q + y1), .int (p + r + y2), .int (q + r + y3), .int (p + q + r)], v0, v0] rfl ?_
  generalize hcs : [p + x1, q + x2, r + x3, p + q + y1, p + r + y2, q + r + y3, p + q + r] = cs
  have ecs : ([.int (p + x1), .int (q + x2), .int (r + x3), .int (p + q + y1), .int (p + r + y2), .int (q + r + y3), .int (p + q + r)] : List D) = cs.map D.int := by rw [← hcs]; rfl
  rw [ecs]
  have hl : cs.length = 7 := by rw [← hcs]; rfl
  have hbd : Bd (3 * B + 2) cs := by
    rw [← hcs]
    intro x hx
    simp at hx
    rcases hx with rfl | rfl | rfl | rfl | rfl | rfl | rfl <;> omega
  refine ⟨⟨_, _, rfl, rfl⟩, _, _, rfl, rfl, w_draw hm (by omega) (by omega) fun pl m hm pl0 pl1 => ⟨trivial, _, rfl, nb rfl, ?_⟩⟩
  refine norm [vb m, vd (.lst [.int p, .int q, .int r]), vi (1 + al), vi (1 + pa), vi p, vi q, vi r, vo (cs.map D.int), vi pl, v0] rfl ?_
  refine ifd (fun h1 => ?_) (fun h1 => ?_)
  · obtain ⟨v, hv, hat⟩ := at_int (cs := cs) pl0 (by rw [hl]; exact h1)
    refine ⟨⟨_, rfl⟩, _, hat, ?_⟩
    refine ⟨⟨_, _, rfl, rfl⟩, _, _, rfl, rfl, w_draw hm (by omega) (by omega) fun z m hm z0 z1 => ⟨trivial, _, rfl, ?_⟩⟩
    have hix : ixN (cs.map D.int).length pl = some pl.toNat := by
      unfold ixN
      rw [if_pos pl0, if_pos (by rw [List.length_map, hl]; exact h1)]
    refine ⟨_, rfl, ⟨_, rfl, rfl⟩, _, _, _, _, rfl, rfl, rfl, hix, ?_⟩
    refine norm [vb m, vd (.lst [.int p, .int q, .int r]), vi (1 + al), vi (1 + pa), vi p, vi q, vi r, vo ((cs.map D.int).set pl.toNat (.int (v - 1 - z))), vi pl, v0] rfl ?_
    have e2 : (cs.map D.int).set pl.toNat (.int (v - 1 - z)) = (cs.set pl.toNat (v - 1 - z)).map D.int := by rw [List.map_set]
    rw [e2]
    refine ⟨trivial, h _ m hm (by rw [List.length_set]; exact hl) fun x hx => ?_⟩
    rcases List.mem_or_eq_of_mem_set hx with hx | rfl
    · have := hbd x hx
      omega
    · have := hbd v (List.mem_of_getElem? hv)
      omega
  · refine ⟨trivial, h _ m hm hl fun x hx => ?_⟩
    have := hbd x hx
    omega
end
end K79
set_option Elab.async false
set_option linter.all false
set_option maxRecDepth 100000
set_option maxHeartbeats 400000
namespace K79
open PySem PySem.Spec PyProof.Rows L2 PL PLX
section
variable {P : Sv → Option M → Prop} {PX : Exn → Option M → Prop} {m : M} {n way B : Int}
theorem range_int {lo : Int} {k i : Nat} {d : D} (h : (rangeD lo k)[i]? = some d) : d = .int (lo + i) ∧ i < k := by
  unfold rangeD at h
  rw [List.getElem?_map] at h
  by_cases hi : i < k
  · rw [List.getElem?_range hi] at h
    exact ⟨(Option.some.inj h).symm, hi⟩
  · rw [List.getElem?_eq_none (by simpa using hi)] at h; cases h
theorem range_len {lo : Int} {k : Nat} : (rangeD lo k).length = k := by simp [rangeD]
theorem lc_ints {el : pE} {k : Nat} {o : Option Sv} {P : Sv → PEnv → Prop} (hk : k ≤ 1000) (hm : DSt m) (ho : isBor (some o) = false) (hel : ∀ m o (P : Sv → PEnv → Prop), DSt m → (∀ r m', DSt m' → -B ≤ r → r ≤ B → P (.val (.int r)) [vb m', vi way, o]) → el [vb m, vi way, o] P)
    (h : ∀ ns m, DSt m → ns.length = k → Bd B ns → P (.own (.lst (ns.map D.int))) [vb m, vi way, v0]) : pLc (iRange1 (pC (.int k))) (gP 2) pYes el [2] [vb m, vi way, o] P := by
  refine ⟨_, rfl, ⟨by omega, by omega⟩, ?_⟩
  refine lcL_ix (fun i acc e => ∃ m ns o, DSt m ∧ acc = ns.map D.int ∧ ns.length = i ∧ Bd B ns ∧ e = [vb m, vi way, o] ∧ isBor (some o) = false) ⟨m, [], o, hm, rfl, rfl, fun x hx => (by simp at hx), rfl, ho⟩ (fun i d acc e N hi hI hN => ?_) (fun acc e hI => ?_)
  · obtain ⟨m, ns, o, hm, rfl, hl, hb, rfl, ho⟩ := hI
    obtain ⟨rfl, hlt⟩ := range_int hi
    refine ⟨nb rfl, ?_⟩
    refine hel m (vi (0 + i)) _ hm fun r m hm r0 r1 => ?_
    refine ⟨?_, hN _ _ ⟨m, ns ++ [r], _, hm, by simp, by simp [hl], fun x hx => ?_, rfl, rfl⟩⟩
    · rw [List.length_map]
      exact Nat.lt_of_lt_of_le (by omega : ns.length < 1000) (sl (n := 1000) (by decide))
    · rcases List.mem_append.mp hx with hx | hx
      · exact hb x hx
      · have : x = r := by simpa using hx
        subst this
        exact ⟨r0, r1⟩
  · obtain ⟨m, ns, o, hm, rfl, hl, hb, rfl, ho⟩ := hI
    rw [range_len] at hl
    exact h ns m hm (by omega) hb
theorem three {ns : List Int} (h : ns.length = 3) : ∃ p q r, ns = [p, q, r] := by
  match ns, h with
  | [p, q, r], _ => exact ⟨p, q, r, rfl⟩
def costB (way : Int) : Int := if way < 4 then 28 else 3 * 2 ^ 200 + 4
theorem el_draw {xc : XC} {n c : Int} (h0 : 0 < n) (hn : n < 2 ^ 30) (hc : 0 ≤ c) (hB : c ≤ B ∧ n ≤ B) : ∀ m o (P : Sv → PEnv → Prop), DSt m → (∀ r m', DSt m' → -B ≤ r → r ≤ B → P (.val (.int r)) [vb m', vi way, o]) → pOp (opB .Sub) (pCallR sp__law_draw xc 0 (pCons (pC (.int n)) pNil)) (pF (pC (.int c))) [vb m, vi way, o] P := fun m o P hm h => by
  refine ⟨⟨_, _, rfl, rfl⟩, _, _, rfl, rfl, w_draw hm h0 hn fun r m hm r0 r1 => ⟨trivial, _, rfl, ?_⟩⟩
  exact h _ m hm (by omega) (by omega)
theorem el_signed {xc : XC} : ∀ m o (P : Sv → PEnv → Prop), DSt m → (∀ r m', DSt m' → -2 ^ 200 ≤ r → r ≤ 2 ^ 200 → P (.val (.int r)) [vb m', vi way, o]) → pCallR sp__law_signed xc 0 pNil [vb m, vi way, o] P := fun m o P hm h => by
  refine ⟨⟨_, _, rfl, rfl⟩, _, _, rfl, rfl, w_signed hm fun r m hm hr => ⟨trivial, _, rfl, ?_⟩⟩
  unfold Sm at hr
  exact h _ m hm (by omega) (by omega)
@[irreducible] def pLcI : pI → pG → pT → pE → List Nat → pE := pLc
theorem pLcI_def : pLcI = pLc := by unfold pLcI; rfl
theorem lc_intsI {el : pE} {k : Nat} {o : Option Sv} {P : Sv → PEnv → Prop} (hk : k ≤ 1000) (hm : DSt m) (ho : isBor (some o) = false) (hel : ∀ m o (P : Sv → PEnv → Prop), DSt m → (∀ r m', DSt m' → -B ≤ r → r ≤ B → P (.val (.int r)) [vb m', vi way, o]) → el [vb m, vi way, o] P)
    (h : ∀ ns m, DSt m → ns.length = k → Bd B ns → P (.own (.lst (ns.map D.int))) [vb m, vi way, v0]) : pLcI (iRange1 (pC (.int k))) (gP 2) pYes el [2] [vb m, vi way, o] P := by
  rw [pLcI_def]
  exact lc_ints hk hm ho hel h
theorem w_costs (hm : DSt m) (h : ∀ cs m', DSt m' → cs.length = 7 → Bd (costB way) cs → P (.val (.tup (cs.map D.int))) (some m')) : sp__law_costs (some m) [.int way] P PX := by
  unfold sp__law_costs
  unfold b__law_costs
  rw [← pLcI_def]
  refine ⟨⟨rfl, rfl⟩, ?_⟩
  refine ⟨_, rfl, ?_⟩
  refine ifd (fun h1 => ?_) (fun h1 => ?_)
  · refine lc_intsI (k := 7) (by decide) hm rfl (el_draw (B := 28) (by decide) (by decide) (by decide) (by decide)) fun ns m hm hl hb => ?_
    exact ⟨trivial, h ns m hm hl (by unfold costB; rw [if_pos (by omega)]; exact hb)⟩
  refine ifd (fun h2 => ?_) (fun h2 => ?_)
  · refine ⟨⟨_, _, rfl, rfl⟩, ?_⟩
    have key : ∀ P : Sv → PEnv → Prop, (∀ (p q r : Int) m, DSt m → Bd 8 [p, q, r] → P (.own (.lst [.int p, .int q, .int r])) [vb m, vi way, v0]) → pLcI (iRange1 (pC (.int 3))) (gP 2) pYes (pOp (opB .Sub) (pCallR sp__law_draw xno 0 (pCons (pC (.int 12)) pNil)) (pF (pC (.int 3)))) [2] [vb m, vi way, v0] P := fun P hP => by
      refine lc_intsI (k := 3) (B := 8) (by decide) hm rfl (fun m o P hm h => ?_) fun ns m hm hl hb => ?_
      · refine ⟨⟨_, _, rfl, rfl⟩, _, _, rfl, rfl, w_draw hm (by decide) (by decide) fun r m hm r0 r1 => ⟨trivial, _, rfl, ?_⟩⟩
        exact h _ m hm (by omega) (by omega)
      · obtain ⟨p, q, r, rfl⟩ := three hl
        exact hP p q r m hm hb
    refine key _ fun p q r m hm hb => ?_
    refine ⟨_, _, rfl, rfl, w_above hm (by decide) hb fun cs m hm hl hb => ⟨trivial, _, rfl, trivial, ?_⟩⟩
    exact h cs m hm hl (by unfold costB; rw [if_pos h2]; exact hb)
  refine ⟨_, rfl, ?_⟩
  refine ifd (fun h3 => ?_) (fun h3 => ?_)
  · refine ⟨⟨_, _, rfl, rfl⟩, ?_⟩
    have key : ∀ P : Sv → PEnv → Prop, (∀ (p q r : Int) m, DSt m → Bd (2 ^ 200) [p, q, r] → P (.own (.lst [.int p, .int q, .int r])) [vb m, vi way, v0]) → pLcI (iRange1 (pC (.int 3))) (gP 2) pYes (pCallR sp__law_signed xno 0 pNil) [2] [vb m, vi way, v0] P := fun P hP => by
      refine lc_intsI (k := 3) (B := 2 ^ 200) (by decide) hm rfl el_signed fun ns m hm hl hb => ?_
      obtain ⟨p, q, r, rfl⟩ := three hl
      exact hP p q r m hm hb
    refine key _ fun p q r m hm hb => ?_
    refine ⟨_, _, rfl, rfl, w_above hm (by decide) hb fun cs m hm hl hb => ⟨trivial, _, rfl, trivial, ?_⟩⟩
    exact h cs m hm hl (by unfold costB; rw [if_neg h2]; exact hb)
  · refine lc_intsI (k := 7) (by decide) hm rfl el_signed fun ns m hm hl hb => ?_
    refine ⟨trivial, h ns m hm hl fun x hx => ?_⟩
    have := hb x hx
    unfold costB
    rw [if_neg h2]
    omega
end
end K79
set_option Elab.async false
set_option linter.all false
set_option maxRecDepth 100000
set_option maxHeartbeats 400000
namespace K79
open PySem PySem.Spec PyProof.Rows L2 PL PLX
theorem gcd_step (x y : Int) (hx : 0 ≤ x) (hy : 0 < y) : Int.gcd y (x % y) = Int.gcd x y := by
  obtain ⟨a, rfl⟩ := Int.eq_ofNat_of_zero_le hx
  obtain ⟨b, rfl⟩ := Int.eq_ofNat_of_zero_le (Int.le_of_lt hy)
  show Int.gcd (b : Int) ((a : Int) % (b : Int)) = Int.gcd (a : Int) (b : Int)
  rw [← Int.natCast_emod, Int.gcd_natCast_natCast, Int.gcd_natCast_natCast, Nat.gcd_comm, ← Nat.gcd_rec, Nat.gcd_comm]
def ab (i : Int) : Int := if i < 0 then -i else i
theorem ab_nn (i : Int) : 0 ≤ ab i := by unfold ab; split <;> omega
theorem ab_gcd (i j : Int) : Int.gcd (ab i) (ab j) = Int.gcd i j := by
  unfold ab
  split <;> split <;> simp [Int.gcd_neg, Int.neg_gcd]
section
variable {P : Sv → Option M → Prop} {PX : Exn → Option M → Prop} {m : M}
theorem w_common {a b : Int} (h : P (.val (.int (Int.gcd a b : Nat))) none) : sp_common none [.int a, .int b] P PX := by
  unfold sp_common
  refine ⟨⟨rfl, rfl⟩, ?_⟩
  refine ⟨nb rfl, nb rfl, ?_⟩
  refine ⟨fun m e => ∃ x y : Int, 0 ≤ x ∧ 0 ≤ y ∧ Int.gcd x y = Int.gcd a b ∧ m = y.natAbs ∧ e = [vi x, vi y], ⟨_, ab a, ab b, ab_nn a, ab_nn b, ab_gcd a b, rfl, rfl⟩, ?_⟩
  rintro m e ⟨x, y, hx, hy, hg, rfl, rfl⟩
  refine ifd (fun h1 => ?_) (fun h1 => ?_)
  · refine ⟨fun e => ∃ x' y' : Int, 0 ≤ x' ∧ 0 ≤ y' ∧ Int.gcd x' y' = Int.gcd a b ∧ y' < y ∧ e = [vi x', vi y'], fun e ⟨x', y', h1, h2, h3, h4, h5⟩ => ⟨y'.natAbs, by omega, x', y', h1, h2, h3, rfl, h5⟩, ?_⟩
    refine ⟨h1, nb rfl, nb rfl, ?_⟩
    exact ⟨y, x % y, hy, Int.emod_nonneg _ (by omega), (gcd_step x y hx h1).trans hg, Int.emod_lt_of_pos _ h1, rfl⟩
  · have e0 : y = 0 := by omega
    subst e0
    rw [Int.gcd_zero_right] at hg
    have e1 : x = (Int.gcd a b : Nat) := by omega
    subst e1
    exact ⟨trivial, h⟩
theorem w_lcommon {a b : Int} (h : P (.val (.int (Int.gcd a b : Nat))) none) : sp__law_common none [.int a, .int b] P PX := by
  unfold sp__law_common
  refine ⟨⟨rfl, rfl⟩, ?_⟩
  refine ⟨nb rfl, nb rfl, ?_⟩
  refine ⟨fun m e => ∃ x y : Int, 0 ≤ x ∧ 0 ≤ y ∧ Int.gcd x y = Int.gcd a b ∧ m = y.natAbs ∧ e = [vi x, vi y], ⟨_, ab a, ab b, ab_nn a, ab_nn b, ab_gcd a b, rfl, rfl⟩, ?_⟩
  rintro m e ⟨x, y, hx, hy, hg, rfl, rfl⟩
  refine ifd (fun h1 => ?_) (fun h1 => ?_)
  · refine ⟨fun e => ∃ x' y' : Int, 0 ≤ x' ∧ 0 ≤ y' ∧ Int.gcd x' y' = Int.gcd a b ∧ y' < y ∧ e = [vi x', vi y'], fun e ⟨x', y', h1, h2, h3, h4, h5⟩ => ⟨y'.natAbs, by omega, x', y', h1, h2, h3, rfl, h5⟩, ?_⟩
    refine ⟨h1, nb rfl, nb rfl, ?_⟩
    exact ⟨y, x % y, hy, Int.emod_nonneg _ (by omega), (gcd_step x y hx h1).trans hg, Int.emod_lt_of_pos _ h1, rfl⟩
  · have e0 : y = 0 := by omega
    subst e0
    rw [Int.gcd_zero_right] at hg
    have e1 : x = (Int.gcd a b : Nat) := by omega
    subst e1
    exact ⟨trivial, h⟩
/-- top over bottom, bottom > 0, made small -/
def fracI (n d : Int) : Int × Int := (n / (Int.gcd n d : Nat), d / (Int.gcd n d : Nat))
def FrD (p : Int × Int) : D := .tup [.int p.1, .int p.2]
/-- fractions of this size -/
def Fr (k : Nat) (p : Int × Int) : Prop := 0 < p.2 ∧ Sm k p.1 ∧ Sm k p.2
theorem gdiv {n d : Int} {k : Nat} (hd : 0 < d) (hs : Sm k d) (hk : k ≤ 9000) (hk0 : 0 < k) : CDivW n (Int.gcd n d : Nat) := by
  have h1 : 0 < Int.gcd n d := Int.gcd_pos_iff.mpr (.inr (by omega))
  have h2 := Int.gcd_le_natAbs_right n (show d ≠ 0 by omega)
  refine ⟨by omega, ?_⟩
  have : Sm k (Int.gcd n d : Nat) := by unfold Sm at *; omega
  have := this.log hk0
  omega
theorem gdiv' {n d x : Int} {k : Nat} (hd : 0 < d) (hs : Sm k d) (hk : k ≤ 9000) (hk0 : 0 < k) : CDivW x (Int.gcd n d : Nat) := gdiv (n := n) hd hs hk hk0
theorem fr_frac {n d : Int} {k : Nat} (hd : 0 < d) (hn : Sm k n) (hs : Sm k d) : Fr k (fracI n d) := by
  have h1 : 0 < Int.gcd n d := Int.gcd_pos_iff.mpr (.inr (by omega))
  refine ⟨Int.ediv_pos_of_pos_of_dvd hd (by omega) (Int.gcd_dvd_right n d), ?_, ?_⟩
  · exact Nat.lt_of_le_of_lt (Int.natAbs_ediv_le_natAbs _ _) hn
  · exact Nat.lt_of_le_of_lt (Int.natAbs_ediv_le_natAbs _ _) hs
/-- a made fraction is a whole number only over 1 -/
theorem frac_whole {n d c : Int} (hd : 0 < d) (h : (fracI n d).1 = c * (fracI n d).2) : (fracI n d).1 = c ∧ (fracI n d).2 = 1 := by
  have g0 : 0 < Int.gcd n d := Int.gcd_pos_iff.mpr (.inr (by omega))
  have e1 : (fracI n d).1 * (Int.gcd n d : Nat) = n := Int.ediv_mul_cancel (Int.gcd_dvd_left n d)
  have e2 : (fracI n d).2 * (Int.gcd n d : Nat) = d := Int.ediv_mul_cancel (Int.gcd_dvd_right n d)
  have e3 : n = c * d := by rw [← e1, h, Int.mul_assoc, e2]
  have e4 : ((Int.gcd n d : Nat) : Int) = d := Int.gcd_eq_right (Int.le_of_lt hd) ⟨c, by rw [e3, Int.mul_comm]⟩
  rw [e4] at e2
  have e5 : (fracI n d).2 = 1 := Int.eq_one_of_mul_eq_self_left (by omega) e2
  rw [e5, Int.mul_one] at h
  exact ⟨h, e5⟩
theorem w_fraction {n d : Int} {k : Nat} (hd : 0 < d) (hs : Sm k d) (hk : k ≤ 9000) (hk0 : 0 < k) (h : P (.val (FrD (fracI n d))) none) : sp_fraction none [.int n, .int d] P PX := by
  unfold sp_fraction
  refine ⟨⟨rfl, rfl⟩, ?_⟩
  refine ifd (fun h1 => by omega) (fun h1 => ?_)
  refine w_common ⟨trivial, nb rfl, ?_⟩
  refine norm [vi n, vi d, vi (Int.gcd n d : Nat)] rfl ?_
  exact ⟨gdiv hd hs hk hk0, gdiv' hd hs hk hk0, sl (n := 2) (by decide), trivial, h⟩
theorem w_lfraction {n d : Int} {k : Nat} (hd : 0 < d) (hs : Sm k d) (hk : k ≤ 9000) (hk0 : 0 < k) (h : P (.val (FrD (fracI n d))) none) : sp__law_fraction none [.int n, .int d] P PX := by
  unfold sp__law_fraction
  refine ⟨⟨rfl, rfl⟩, ?_⟩
  refine ifd (fun h1 => by omega) (fun h1 => ?_)
  refine w_lcommon ⟨trivial, nb rfl, ?_⟩
  refine norm [vi n, vi d, vi (Int.gcd n d : Nat)] rfl ?_
  exact ⟨gdiv hd hs hk hk0, gdiv' hd hs hk hk0, sl (n := 2) (by decide), trivial, h⟩
def plusF (p q : Int × Int) : Int × Int := fracI (p.1 * q.2 + q.1 * p.2) (p.2 * q.2)
def minusF (p q : Int × Int) : Int × Int := fracI (p.1 * q.2 - q.1 * p.2) (p.2 * q.2)
theorem fr_plus {p q : Int × Int} {j k : Nat} (hp : Fr j p) (hq : Fr k q) : Fr (j + k + 1) (plusF p q) := by
  refine fr_frac (Int.mul_pos hp.1 hq.1) ?_ ((hp.2.2.mul hq.2.2).mono (by omega))
  refine (hp.2.1.mul hq.2.2).add ?_
  have := hq.2.1.mul hp.2.2
  exact this.mono (by omega)
theorem fr_minus {p q : Int × Int} {j k : Nat} (hp : Fr j p) (hq : Fr k q) : Fr (j + k + 1) (minusF p q) := by
  refine fr_frac (Int.mul_pos hp.1 hq.1) ?_ ((hp.2.2.mul hq.2.2).mono (by omega))
  refine (hp.2.1.mul hq.2.2).sub ?_
  have := hq.2.1.mul hp.2.2
  exact this.mono (by omega)
theorem w_plus {p q : Int × Int} {j k : Nat} (hp : Fr j p) (hq : Fr k q) (h0 : 0 < j) (h1 : 0 < k) (hk : j + k ≤ 9000) (h : P (.val (FrD (plusF p q))) none) : sp_plus none [FrD p, FrD q] P PX := by
  unfold sp_plus
  refine ⟨⟨rfl, rfl⟩, ?_⟩
  refine ⟨⟨_, rfl⟩, _, rfl, ⟨_, rfl⟩, _, rfl, hp.2.1.cmul hq.2.2 h0 h1 (by omega), ⟨_, rfl⟩, _, rfl, ⟨_, rfl⟩, _, rfl, hq.2.1.cmul hp.2.2 h1 h0 (by omega), ⟨_, rfl⟩, _, rfl, ⟨_, rfl⟩, _, rfl, hp.2.2.cmul hq.2.2 h0 h1 (by omega), ?_⟩
  exact w_fraction (Int.mul_pos hp.1 hq.1) (hp.2.2.mul hq.2.2) hk (by omega) ⟨trivial, trivial, h⟩
theorem w_lplus {p q : Int × Int} {j k : Nat} (hp : Fr j p) (hq : Fr k q) (h0 : 0 < j) (h1 : 0 < k) (hk : j + k ≤ 9000) (h : P (.val (FrD (plusF p q))) none) : sp__law_plus none [FrD p, FrD q] P PX := by
  unfold sp__law_plus
  refine ⟨⟨rfl, rfl⟩, ?_⟩
  refine ⟨⟨_, rfl⟩, _, rfl, ⟨_, rfl⟩, _, rfl, hp.2.1.cmul hq.2.2 h0 h1 (by omega), ⟨_, rfl⟩, _, rfl, ⟨_, rfl⟩, _, rfl, hq.2.1.cmul hp.2.2 h1 h0 (by omega), ⟨_, rfl⟩, _, rfl, ⟨_, rfl⟩, _, rfl, hp.2.2.cmul hq.2.2 h0 h1 (by omega), ?_⟩
  exact w_lfraction (Int.mul_pos hp.1 hq.1) (hp.2.2.mul hq.2.2) hk (by omega) ⟨trivial, trivial, h⟩
theorem w_lminus {p q : Int × Int} {j k : Nat} (hp : Fr j p) (hq : Fr k q) (h0 : 0 < j) (h1 : 0 < k) (hk : j + k ≤ 9000) (h : P (.val (FrD (minusF p q))) none) : sp__law_minus none [FrD p, FrD q] P PX := by
  unfold sp__law_minus
  refine ⟨⟨rfl, rfl⟩, ?_⟩
  refine ⟨⟨_, rfl⟩, _, rfl, ⟨_, rfl⟩, _, rfl, hp.2.1.cmul hq.2.2 h0 h1 (by omega), ⟨_, rfl⟩, _, rfl, ⟨_, rfl⟩, _, rfl, hq.2.1.cmul hp.2.2 h1 h0 (by omega), ⟨_, rfl⟩, _, rfl, ⟨_, rfl⟩, _, rfl, hp.2.2.cmul hq.2.2 h0 h1 (by omega), ?_⟩
  exact w_lfraction (Int.mul_pos hp.1 hq.1) (hp.2.2.mul hq.2.2) hk (by omega) ⟨trivial, trivial, h⟩
/-- the size of the costs, as a fraction over 1 -/
theorem w_below {c : Int} {p : Int × Int} {j k : Nat} (hc : Sm k c) (hp : Fr j p) (h0 : 0 < j) (h1 : 0 < k) (hk : j + k ≤ 9000) (h : P (.val (.bl (decide (c * p.2 < p.1 * 1)))) none) : sp__law_below none [.tup [.int c, .int 1], FrD p] P PX := by
  unfold sp__law_below
  refine ⟨⟨rfl, rfl⟩, ?_⟩
  exact ⟨⟨_, rfl⟩, _, rfl, ⟨_, rfl⟩, _, rfl, hc.cmul hp.2.2 h1 h0 (by omega), ⟨_, rfl⟩, _, rfl, ⟨_, rfl⟩, _, rfl, cmr (by decide), trivial, h⟩
def cmpI (x y : Int) : Int := if x < y then -1 else if y < x then 1 else 0
theorem w_compare {c : Int} {p : Int × Int} {j k : Nat} (hc : Sm k c) (hp : Fr j p) (h0 : 0 < j) (h1 : 0 < k) (hk : j + k ≤ 9000) (h : P (.val (.int (cmpI (p.1 * 1) (c * p.2)))) none) : sp_compare none [FrD p, .tup [.int c, .int 1]] P PX := by
  unfold sp_compare
  refine ⟨⟨rfl, rfl⟩, ?_⟩
  unfold cmpI at h
  refine ⟨⟨_, rfl⟩, _, rfl, ⟨_, rfl⟩, _, rfl, cmr (by decide), nb rfl, ⟨_, rfl⟩, _, rfl, ⟨_, rfl⟩, _, rfl, hc.cmul hp.2.2 h1 h0 (by omega), nb rfl, ?_⟩
  refine norm [vd (FrD p), vd (.tup [.int c, .int 1]), vi (p.1 * 1), vi (c * p.2)] rfl ?_
  refine ifd (fun h1 => ?_) (fun h1 => ?_)
  · rw [if_pos h1] at h
    exact ⟨trivial, h⟩
  rw [if_neg h1] at h
  refine ifd (fun h2 => ?_) (fun h2 => ?_)
  · rw [if_pos h2] at h
    exact ⟨trivial, h⟩
  rw [if_neg h2] at h
  exact ⟨trivial, h⟩
end
end K79
set_option Elab.async false
set_option linter.all false
set_option maxRecDepth 100000
set_option maxHeartbeats 400000
namespace K79
open PySem PySem.Spec PyProof.Rows L2 PL PLX
def paidF (fs : List (Int × Int)) (g : List Nat) : Int × Int := g.foldl (fun p h => plusF p (fs.getD h (0, 1))) (0, 1)
def gD (g : List Nat) : D := .tup (g.map fun (h : Nat) => .int (h : Int))
def grp : List (List Nat) := [[0], [1], [2], [0, 1], [0, 2], [1, 2], [0, 1, 2]]
def fsD (fs : List (Int × Int)) : D := .tup (fs.map FrD)
structure FsOk (fs : List (Int × Int)) : Prop where
  len : fs.length = 3
  fr : ∀ p ∈ fs, Fr 1100 p
theorem fr01 : Fr 1 (0, 1) := ⟨by decide, by unfold Sm; decide, by unfold Sm; decide⟩
theorem fs_get {fs : List (Int × Int)} (h : FsOk fs) {i : Nat} (hi : i < 3) : fs[i]? = some (fs.getD i (0, 1)) ∧ Fr 1100 (fs.getD i (0, 1)) := by
  have hl : i < fs.length := by rw [h.len]; exact hi
  have e : fs.getD i (0, 1) = fs[i] := by rw [List.getD_eq_getElem?_getD]; simp [hl]
  rw [e]
  exact ⟨by simp [hl], h.fr _ (List.getElem_mem hl)⟩
theorem paid_fr {fs : List (Int × Int)} (h : FsOk fs) : ∀ (g : List Nat) (p : Int × Int) (k : Nat), (∀ x ∈ g, x < 3) → Fr k p → Fr (k + g.length * 1101) (g.foldl (fun p h => plusF p (fs.getD h (0, 1))) p)
  | [], p, k, _, hp => by simpa using hp
  | x :: g, p, k, hg, hp => by
    have h1 := fr_plus hp (fs_get h (hg x List.mem_cons_self)).2
    have h2 := paid_fr h g _ _ (fun y hy => hg y (List.mem_cons_of_mem _ hy)) h1
    rw [List.foldl_cons, List.length_cons]
    have e : k + (g.length + 1) * 1101 = k + 1100 + 1 + g.length * 1101 := by omega
    rw [e]
    exact h2
theorem Fr.mono {j k : Nat} {p : Int × Int} (h : Fr j p) (hj : j ≤ k) : Fr k p := ⟨h.1, h.2.1.mono hj, h.2.2.mono hj⟩
theorem paid_ok {fs : List (Int × Int)} (h : FsOk fs) {g : List Nat} (hg : ∀ x ∈ g, x < 3) (hl : g.length ≤ 3) : Fr 4000 (paidF fs g) := (paid_fr h g _ _ hg fr01).mono (by omega)
theorem paid_succ {fs : List (Int × Int)} {g : List Nat} {i h : Nat} (e : g[i]? = some h) : paidF fs (g.take (i + 1)) = plusF (paidF fs (g.take i)) (fs.getD h (0, 1)) := by
  unfold paidF
  rw [List.take_succ, e, List.foldl_append]
  rfl
theorem at_fs {fs : List (Int × Int)} (h : FsOk fs) {i : Nat} (hi : i < 3) : atI (fs.map FrD) (i : Int) = some (FrD (fs.getD i (0, 1))) := by
  unfold atI ixN
  rw [if_pos (by omega), if_pos (by rw [List.length_map, h.len]; omega)]
  have e := (fs_get h hi).1
  show (fs.map FrD)[(i : Int).toNat]? = _
  rw [Int.toNat_natCast, List.getElem?_map, e]
  rfl
theorem at_cs {cs : List Int} {i : Nat} (hi : i < cs.length) : atI (cs.map D.int) (i : Int) = some (.int (cs.getD i 0)) := by
  unfold atI ixN
  rw [if_pos (by omega), if_pos (by rw [List.length_map]; omega)]
  simp [hi]
section
variable {P : Sv → Option M → Prop} {PX : Exn → Option M → Prop} {m : M} {fs : List (Int × Int)} {cs : List Int}
theorem w_paid {g : List Nat} (h : FsOk fs) (hg : ∀ x ∈ g, x < 3) (hl : g.length ≤ 3) (k : P (.val (FrD (paidF fs g))) none) : sp__law_paid none [fsD fs, gD g] P PX := by
  unfold sp__law_paid
  refine ⟨⟨rfl, rfl⟩, ?_⟩
  refine ⟨sl (n := 2) (by decide), nb rfl, ?_⟩
  refine norm [vd (fsD fs), vd (gD g), vd (FrD (0, 1)), v0] rfl ?_
  refine forL_ix (fun j e => ∃ o, e = [vd (fsD fs), vd (gD g), vd (FrD (paidF fs (g.take j))), o] ∧ isBor (some o) = false) ⟨v0, rfl, rfl⟩ (fun j d e N hj hI hN => ?_) (fun e hI => ?_)
  · obtain ⟨o, rfl, ho⟩ := hI
    obtain ⟨x, hx, rfl⟩ : ∃ x : Nat, g[j]? = some x ∧ d = .int (x : Int) := by
      rw [List.getElem?_map] at hj
      cases e : g[j]? with
      | none => rw [e] at hj; cases hj
      | some x => rw [e] at hj; exact ⟨x, rfl, (Option.some.inj hj).symm⟩
    have hx3 := hg x (List.mem_of_getElem? hx)
    refine ⟨nb ho, ⟨_, rfl⟩, _, at_fs h hx3, ?_⟩
    refine w_lplus (j := 4000) (k := 1100) (paid_ok h (fun y hy => hg y (List.mem_of_mem_take hy)) (by rw [List.length_take]; omega)) (fs_get h hx3).2 (by decide) (by decide) (by decide) ⟨trivial, nb rfl, ?_⟩
    refine hN _ ⟨vi x, ?_, rfl⟩
    rw [paid_succ hx]
    rfl
  · obtain ⟨o, rfl, ho⟩ := hI
    have e : g.take (g.map fun (h : Nat) => D.int (h : Int)).length = g := by rw [List.length_map, List.take_length]
    rw [e]
    exact ⟨trivial, k⟩
/-- is the group's share of its size -/
def okI (cs : List Int) (fs : List (Int × Int)) (i : Nat) : Bool := !decide (0 < cmpI ((paidF fs (grp.getD i [])).1 * 1) (cs.getD i 0 * (paidF fs (grp.getD i [])).2)) &&
  !(decide ((grp.getD i []).length = 3) && !decide (cmpI ((paidF fs (grp.getD i [])).1 * 1) (cs.getD i 0 * (paidF fs (grp.getD i [])).2) = 0))
def fairB (cs : List Int) (fs : List (Int × Int)) : Bool := (List.range 7).all (okI cs fs)
structure CsOk (cs : List Int) : Prop where
  len : cs.length = 7
  sm : ∀ x ∈ cs, Sm 210 x
theorem cs_sm (h : CsOk cs) {i : Nat} (hi : i < 7) : Sm 210 (cs.getD i 0) := by
  have hl : i < cs.length := by rw [h.len]; exact hi
  have e : cs.getD i 0 = cs[i] := by rw [List.getD_eq_getElem?_getD]; simp [hl]
  rw [e]
  exact h.sm _ (List.getElem_mem hl)
theorem grp_ok {i : Nat} {g : List Nat} (h : grp[i]? = some g) : (∀ x ∈ g, x < 3) ∧ g.length ≤ 3 ∧ i < 7 ∧ grp.getD i [] = g ∧ (g.length = 3 ↔ i = 6) := by
  have hi : i < 7 := (List.getElem?_eq_some_iff.mp h).1
  have : i = 0 ∨ i = 1 ∨ i = 2 ∨ i = 3 ∨ i = 4 ∨ i = 5 ∨ i = 6 := by omega
  rcases this with rfl | rfl | rfl | rfl | rfl | rfl | rfl <;> (cases h; exact ⟨by decide, by decide, by decide, rfl, by decide⟩)
theorem w_are_fair (hc : CsOk cs) (h : FsOk fs) (k : P (.val (.bl (fairB cs fs))) none) : sp_are_fair none [.tup (cs.map D.int), fsD fs] P PX := by
  unfold sp_are_fair
  refine ⟨⟨rfl, rfl⟩, ?_⟩
  refine ⟨grp.map gD, rfl, ?_⟩
  have bad : ∀ i, i < 7 → okI cs fs i = false → P (.val (.bl false)) none := fun i hi h1 => by
    have e : fairB cs fs = false := by
      unfold fairB
      rw [List.all_eq_false]
      exact ⟨i, List.mem_range.mpr hi, by rw [h1]; simp⟩
    rw [e] at k
    exact k
  refine forL_ix (fun i e => (∀ j, j < i → okI cs fs j = true) ∧ ∃ o2 o3 o4 o5 o6, e = [vd (.tup (cs.map D.int)), vd (fsD fs), o2, o3, o4, o5, o6] ∧ isBor (some o2) = false ∧ isBor (some o3) = false ∧ isBor (some o4) = false ∧ isBor (some o5) = false ∧ isBor (some o6) = false)
    ⟨fun j hj => absurd hj (Nat.not_lt_zero j), v0, v0, v0, v0, v0, rfl, rfl, rfl, rfl, rfl, rfl⟩ (fun i d e N hi hI hN => ?_) (fun e hI => ?_)
  · obtain ⟨hI, o2, o3, o4, o5, o6, rfl, b2, b3, b4, b5, b6⟩ := hI
    obtain ⟨x, hx, rfl⟩ := enumD_get hi
    obtain ⟨g, hg, rfl⟩ : ∃ g, grp[i]? = some g ∧ x = gD g := by
      rw [List.getElem?_map] at hx
      cases e : grp[i]? with
      | none => rw [e] at hx; cases hx
      | some g => rw [e] at hx; exact ⟨g, rfl, (Option.some.inj hx).symm⟩
    obtain ⟨g1, g2, g3, g4, g5⟩ := grp_ok hg
    refine ⟨_, _, rfl, rfl, rfl, nb b2, nb b3, rfl, ?_⟩
    refine ⟨sl (n := 2) (by decide), nb b4, ?_⟩
    refine norm [vd (.tup (cs.map D.int)), vd (fsD fs), vi i, vd (gD g), vd (FrD (0, 1)), o5, o6] rfl ?_
    refine forL_ix (fun j e => ∃ o5, e = [vd (.tup (cs.map D.int)), vd (fsD fs), vi i, vd (gD g), vd (FrD (paidF fs (g.take j))), o5, o6] ∧ isBor (some o5) = false) ⟨o5, rfl, b5⟩ (fun j d e N' hj hJ hN' => ?_) (fun e hJ => ?_)
    · obtain ⟨o5, rfl, b5⟩ := hJ
      obtain ⟨x, hx, rfl⟩ : ∃ x : Nat, g[j]? = some x ∧ d = .int (x : Int) := by
        rw [List.getElem?_map] at hj
        cases e : g[j]? with
        | none => rw [e] at hj; cases hj
        | some x => rw [e] at hj; exact ⟨x, rfl, (Option.some.inj hj).symm⟩
      have hx3 := g1 x (List.mem_of_getElem? hx)
      refine ⟨nb b5, ⟨_, rfl⟩, _, at_fs h hx3, ?_⟩
      refine w_plus (j := 4000) (k := 1100) (paid_ok h (fun y hy => g1 y (List.mem_of_mem_take hy)) (by rw [List.length_take]; omega)) (fs_get h hx3).2 (by decide) (by decide) (by decide) ⟨trivial, nb rfl, ?_⟩
      refine hN' _ ⟨vi x, ?_, rfl⟩
      rw [paid_succ hx]
      rfl
    · obtain ⟨o5, rfl, b5⟩ := hJ
      have e : g.take (g.map fun (h : Nat) => D.int (h : Int)).length = g := by rw [List.length_map, List.take_length]
      rw [e]
      have hlen : i < cs.length := by rw [hc.len]; exact g3
      refine ⟨⟨_, rfl⟩, _, at_cs hlen, sl (n := 2) (by decide), ?_⟩
      refine w_compare (j := 4000) (k := 210) (cs_sm hc g3) (paid_ok h g1 g2) (by decide) (by decide) (by decide) ⟨trivial, nb b6, ?_⟩
      generalize hv : cmpI ((paidF fs g).1 * 1) (cs.getD i 0 * (paidF fs g).2) = v
      refine norm [vd (.tup (cs.map D.int)), vd (fsD fs), vi i, vd (gD g), vd (FrD (paidF fs g)), o5, vi v] rfl ?_
      have hok : okI cs fs i = (!decide (0 < v) && !(decide (g.length = 3) && !decide (v = 0))) := by
        unfold okI
        rw [g4, hv]
      refine ifd (fun h1 => ?_) (fun h1 => ?_)
      · exact ⟨trivial, bad i g3 (by rw [hok, decide_eq_true h1]; rfl)⟩
      refine ⟨_, rfl, ?_⟩
      have lg : (((g.map fun (h : Nat) => D.int (h : Int)).length : Nat) : Int) = 3 ↔ g.length = 3 := by rw [List.length_map]; omega
      refine ifd (fun h2 => ?_) (fun h2 => ?_)
      · have h2 := lg.mp h2
        refine ⟨_, rfl, ?_⟩
        refine if2 (fun h3 => ?_) (fun h3 => ?_)
        · have h3 : ¬ v = 0 := by simpa using h3
          exact ⟨trivial, bad i g3 (by rw [hok, decide_eq_true h2, decide_eq_false h3]; simp)⟩
        · have h3 : v = 0 := by simpa using h3
          refine hN _ ⟨fun j hj => ?_, _, _, _, _, _, rfl, rfl, rfl, rfl, b5, rfl⟩
          by_cases e : j = i
          · subst e
            rw [hok, decide_eq_true h3, decide_eq_false h1]
            simp
          · exact hI j (by omega)
      · have h2 : ¬ g.length = 3 := fun z => h2 (lg.mpr z)
        refine hN _ ⟨fun j hj => ?_, _, _, _, _, _, rfl, rfl, rfl, rfl, b5, rfl⟩
        by_cases e : j = i
        · subst e
          rw [hok, decide_eq_false h2, decide_eq_false h1]
          simp
        · exact hI j (by omega)
  · obtain ⟨hI, _⟩ := hI
    have e : fairB cs fs = true := by
      unfold fairB
      rw [List.all_eq_true]
      intro i hi
      exact hI i (by rw [enumD_len]; simpa [grp] using hi)
    rw [e] at k
    exact ⟨trivial, k⟩
end
end K79
set_option Elab.async false
set_option linter.all false
set_option maxRecDepth 100000
set_option maxHeartbeats 400000
namespace K79
open PySem PySem.Spec PyProof.Rows L2 PL PLX
theorem eq_frc {p : Int × Int} {c : Int} : eqD (FrD p) (.tup [.int c, .int 1]) = some (decide (p.1 = c ∧ p.2 = 1)) := by
  have e : eqD (FrD p) (.tup [.int c, .int 1]) = some (p.1 == c && (p.2 == 1 && true)) := rfl
  rw [e]
  by_cases h1 : p.1 = c <;> by_cases h2 : p.2 = 1 <;> simp [h1, h2]
theorem eq_bl {a : Bool} : eqD (.bl a) (.bl a) = some true := by cases a <;> rfl
theorem fair_is {cs : List Int} {fs : List (Int × Int)} (h : FsOk fs) : fairB cs fs = ((List.range 6).all (fun i => !decide (cs.getD i 0 * (paidF fs (grp.getD i [])).2 < (paidF fs (grp.getD i [])).1 * 1)) && decide ((paidF fs [0, 1, 2]).1 = cs.getD 6 0 ∧ (paidF fs [0, 1, 2]).2 = 1)) := by
  have hc : ∀ x y : Int, decide (0 < cmpI x y) = decide (y < x) := fun x y => by
    unfold cmpI
    by_cases h1 : x < y
    · rw [if_pos h1, decide_eq_false (by omega), decide_eq_false (by omega)]
    · rw [if_neg h1]
      by_cases h2 : y < x
      · rw [if_pos h2, decide_eq_true (by omega), decide_eq_true h2]
      · rw [if_neg h2, decide_eq_false (by omega), decide_eq_false h2]
  have h6 : ∀ i, i < 6 → okI cs fs i = !decide (cs.getD i 0 * (paidF fs (grp.getD i [])).2 < (paidF fs (grp.getD i [])).1 * 1) := fun i hi => by
    have e : decide ((grp.getD i []).length = 3) = false := by
      have : i = 0 ∨ i = 1 ∨ i = 2 ∨ i = 3 ∨ i = 4 ∨ i = 5 := by omega
      rcases this with rfl | rfl | rfl | rfl | rfl | rfl <;> rfl
    unfold okI
    rw [e, hc]
    simp
  have e7 : fairB cs fs = ((List.range 6).all (okI cs fs) && okI cs fs 6) := by
    unfold fairB
    rw [show List.range 7 = List.range 6 ++ [6] from rfl, List.all_append]
    simp
  rw [e7]
  congr 1
  · rw [Bool.eq_iff_iff, List.all_eq_true, List.all_eq_true]
    constructor <;> intro z i hi
    · rw [← h6 i (List.mem_range.mp hi)]; exact z i hi
    · rw [h6 i (List.mem_range.mp hi)]; exact z i hi
  · have e6 : okI cs fs 6 = (!decide (0 < cmpI ((paidF fs [0, 1, 2]).1 * 1) (cs.getD 6 0 * (paidF fs [0, 1, 2]).2)) && !(true && !decide (cmpI ((paidF fs [0, 1, 2]).1 * 1) (cs.getD 6 0 * (paidF fs [0, 1, 2]).2) = 0))) := rfl
    rw [e6]
    have hp : paidF fs [0, 1, 2] = plusF (paidF fs [0, 1]) (fs.getD 2 (0, 1)) := rfl
    have f1 := paid_ok h (g := [0, 1]) (by decide) (by decide)
    have f2 := (fs_get h (i := 2) (by decide)).2
    have hw : ∀ c, (paidF fs [0, 1, 2]).1 = c * (paidF fs [0, 1, 2]).2 → (paidF fs [0, 1, 2]).1 = c ∧ (paidF fs [0, 1, 2]).2 = 1 := fun c hc => by
      rw [hp] at hc ⊢
      exact frac_whole (Int.mul_pos f1.1 f2.1) hc
    generalize paidF fs [0, 1, 2] = p at hw ⊢
    generalize cs.getD 6 0 = c
    by_cases z : p.1 = c * p.2
    · obtain ⟨z1, z2⟩ := hw c z
      have : cmpI (p.1 * 1) (c * p.2) = 0 := by unfold cmpI; rw [if_neg (by omega), if_neg (by omega)]
      rw [this, decide_eq_true (show p.1 = c ∧ p.2 = 1 from ⟨z1, z2⟩)]
      rfl
    · have n2 : ¬ (p.1 = c ∧ p.2 = 1) := fun ⟨a, b⟩ => z (by rw [b, Int.mul_one]; exact a)
      rw [decide_eq_false n2]
      have : cmpI (p.1 * 1) (c * p.2) ≠ 0 := by
        unfold cmpI
        split
        · decide
        split
        · decide
        · omega
      rw [decide_eq_false this, Bool.not_false, Bool.true_and, Bool.not_true, Bool.and_false]
section
variable {P : Sv → Option M → Prop} {PX : Exn → Option M → Prop} {m : M} {fs : List (Int × Int)} {cs : List Int}
def grp6 : List (List Nat) := [[0], [1], [2], [0, 1], [0, 2], [1, 2]]
theorem w_fair_paper (hc : CsOk cs) (h : FsOk fs) (k : P (.val (.bl (fairB cs fs))) none) : sp__law_fair_paper none [.tup (cs.map D.int), fsD fs] P PX := by
  unfold sp__law_fair_paper
  refine ⟨⟨rfl, rfl⟩, ?_⟩
  rw [fair_is h] at k
  refine ⟨sl (n := 1) (by decide), sl (n := 1) (by decide), sl (n := 1) (by decide), sl (n := 2) (by decide), sl (n := 2) (by decide), sl (n := 2) (by decide), sl (n := 6) (by decide), nb rfl, ?_⟩
  refine norm [vd (.tup (cs.map D.int)), vd (fsD fs), vo (grp6.map gD), v0] rfl ?_
  refine ⟨_, rfl, ⟨by decide, by decide⟩, ?_⟩
  have bad : ∀ i, i < 6 → cs.getD i 0 * (paidF fs (grp.getD i [])).2 < (paidF fs (grp.getD i [])).1 * 1 → P (.val (.bl false)) none := fun i hi h1 => by
    have e : ((List.range 6).all (fun i => !decide (cs.getD i 0 * (paidF fs (grp.getD i [])).2 < (paidF fs (grp.getD i [])).1 * 1))) = false := by
      rw [List.all_eq_false]
      exact ⟨i, List.mem_range.mpr hi, by rw [decide_eq_true h1]; simp⟩
    rw [e, Bool.false_and] at k
    exact k
  refine forL_ix (fun i e => (∀ j, j < i → ¬ (cs.getD j 0 * (paidF fs (grp.getD j [])).2 < (paidF fs (grp.getD j [])).1 * 1)) ∧ ∃ o, e = [vd (.tup (cs.map D.int)), vd (fsD fs), vo (grp6.map gD), o] ∧ isBor (some o) = false) ⟨fun j hj => absurd hj (Nat.not_lt_zero j), _, rfl, rfl⟩ (fun i d e N hi hI hN => ?_) (fun e hI => ?_)
  · obtain ⟨hI, o, rfl, ho⟩ := hI
    obtain ⟨rfl, hlt⟩ := range_int hi
    have hlt : i < 6 := hlt
    rw [Int.zero_add]
    have hlen : i < cs.length := by rw [hc.len]; omega
    obtain ⟨g1, g2, g3⟩ : (∀ x ∈ grp.getD i [], x < 3) ∧ (grp.getD i []).length ≤ 3 ∧ atI (grp6.map gD) (i : Int) = some (gD (grp.getD i [])) := by
      have : i = 0 ∨ i = 1 ∨ i = 2 ∨ i = 3 ∨ i = 4 ∨ i = 5 := by omega
      rcases this with rfl | rfl | rfl | rfl | rfl | rfl <;> exact ⟨by decide, by decide, rfl⟩
    refine ⟨nb ho, ⟨_, rfl⟩, _, at_cs hlen, sl (n := 2) (by decide), ⟨_, rfl⟩, _, g3, ?_⟩
    refine w_paid h g1 g2 ⟨trivial, ?_⟩
    refine w_below (j := 4000) (k := 210) (cs_sm hc (by omega)) (paid_ok h g1 g2) (by decide) (by decide) (by decide) ⟨trivial, ?_⟩
    refine ifd (fun h1 => ?_) (fun h1 => ?_)
    · exact ⟨trivial, bad i hlt h1⟩
    · refine hN _ ⟨fun j hj => ?_, _, rfl, rfl⟩
      by_cases e : j = i
      · subst e
        exact h1
      · exact hI j (by omega)
  · obtain ⟨hI, o, rfl, ho⟩ := hI
    have e : ((List.range 6).all (fun i => !decide (cs.getD i 0 * (paidF fs (grp.getD i [])).2 < (paidF fs (grp.getD i [])).1 * 1))) = true := by
      rw [List.all_eq_true]
      intro i hi
      rw [decide_eq_false (hI i (List.mem_range.mp hi))]
      rfl
    rw [e, Bool.true_and] at k
    refine ⟨sl (n := 3) (by decide), ?_⟩
    refine w_paid (g := [0, 1, 2]) h (by decide) (by decide) ⟨trivial, ?_⟩
    have h6 : atI (cs.map D.int) 6 = some (.int (cs.getD 6 0)) := at_cs (i := 6) (by rw [hc.len]; decide)
    exact ⟨⟨_, rfl⟩, _, h6, sl (n := 2) (by decide), _, eq_frc, trivial, k⟩
/-- a row of shares -/
theorem at_f3 {fs : List (Int × Int)} {g : Int} (hl : fs.length = 3) (h0 : 0 ≤ g) (h1 : g < 3) : fs[g.toNat]? = some (fs.getD g.toNat (0, 1)) ∧ atI (fs.map FrD) g = some (FrD (fs.getD g.toNat (0, 1))) ∧ ixN (fs.map FrD).length g = some g.toNat := by
  have hi : g.toNat < fs.length := by omega
  have e : fs[g.toNat]? = some (fs.getD g.toNat (0, 1)) := by rw [List.getD_eq_getElem?_getD]; simp [hi]
  have e2 : ixN (fs.map FrD).length g = some g.toNat := by
    unfold ixN
    rw [if_pos h0, if_pos (by rw [List.length_map]; omega)]
  refine ⟨e, ?_, e2⟩
  unfold atI
  rw [e2]
  show (fs.map FrD)[g.toNat]? = _
  rw [List.getElem?_map, e]
  rfl
theorem w_paper {p q r : Int} (hm : DSt m) (hp : Sm 250 p) (hq : Sm 250 q) (hr : Sm 250 r) (k : ∀ fs m, DSt m → FsOk fs → P (.val (fsD fs)) (some m)) : sp__law_paper (some m) [.tup [.int p, .int q, .int r]] P PX := by
  unfold sp__law_paper
  refine ⟨⟨rfl, rfl⟩, ?_⟩
  refine ⟨nb rfl, sl (n := 2) (by decide), sl (n := 1) (by decide), nb rfl, sl (n := 2) (by decide), sl (n := 2) (by decide), nb rfl, sl (n := 2) (by decide), sl (n := 3) (by decide), nb rfl, ?_⟩
  refine norm [vb m, vd (.tup [.int p, .int q, .int r]), vo ([(p, 1), (q, 1), (r, 1)].map FrD), v0, v0, v0, v0, v0] rfl ?_
  refine ⟨⟨_, _, rfl, rfl⟩, _, _, rfl, rfl, w_draw hm (by decide) (by decide) fun tn m hm t0 t1 => ⟨trivial, _, rfl, ?_⟩⟩
  refine ⟨_, rfl, ⟨by omega, by omega⟩, ?_⟩
  refine forL_ix (fun i e => ∃ (m : M) (fs : List (Int × Int)) (o3 o4 o5 o6 : Option Sv), DSt m ∧ fs.length = 3 ∧ (∀ x ∈ fs, Fr (250 + 20 * i) x) ∧ e = [vb m, vd (.tup [.int p, .int q, .int r]), vo (fs.map FrD), o3, o4, o5, o6, v0] ∧ isBor (some o3) = false ∧ isBor (some o4) = false ∧ isBor (some o5) = false ∧ isBor (some o6) = false)
    ⟨m, _, v0, v0, v0, v0, hm, rfl, fun x hx => ?_, rfl, rfl, rfl, rfl, rfl⟩ (fun i d e N hi hI hN => ?_) (fun e hI => ?_)
  · simp at hx
    rcases hx with rfl | rfl | rfl <;> exact ⟨(by decide : (0 : Int) < 1), by assumption, (by unfold Sm; decide : Sm (250 + 20 * 0) 1)⟩
  · obtain ⟨m, fs, o3, o4, o5, o6, hm, hl, hb, rfl, b3, b4, b5, b6⟩ := hI
    obtain ⟨rfl, hlt⟩ := range_int hi
    refine ⟨nb b3, ?_⟩
    refine ⟨⟨_, _, rfl, rfl⟩, _, _, rfl, rfl, w_draw hm (by decide) (by decide) fun an m hm a0 a1 => ⟨trivial, _, rfl, ?_⟩⟩
    refine ⟨⟨_, _, rfl, rfl⟩, _, _, rfl, rfl, w_draw hm (by decide) (by decide) fun ad m hm d0 d1 => ⟨trivial, _, rfl, ?_⟩⟩
    have hsd : Sm 3 (1 + ad) := by unfold Sm; omega
    have hsn : Sm 3 an := by unfold Sm; omega
    have fam := fr_frac (show 0 < 1 + ad by omega) hsn hsd
    refine w_lfraction (k := 3) (by omega) hsd (by decide) (by decide) ⟨trivial, nb b4, ?_⟩
    generalize fracI an (1 + ad) = am at fam ⊢
    refine norm [vb m, vd (.tup [.int p, .int q, .int r]), vo (fs.map FrD), vi (0 + i), vd (FrD am), o5, o6, v0] rfl ?_
    refine ⟨⟨_, _, rfl, rfl⟩, _, _, rfl, rfl, w_draw hm (by decide) (by decide) fun gi m hm g0 g1 => ⟨trivial, _, rfl, nb b5, ?_⟩⟩
    refine norm [vb m, vd (.tup [.int p, .int q, .int r]), vo (fs.map FrD), vi (0 + i), vd (FrD am), vi gi, o6, v0] rfl ?_
    refine ⟨⟨_, _, rfl, rfl⟩, _, _, rfl, rfl, w_draw hm (by decide) (by decide) fun ta m hm k0 k1 => ⟨trivial, _, rfl, nb b6, ?_⟩⟩
    refine norm [vb m, vd (.tup [.int p, .int q, .int r]), vo (fs.map FrD), vi (0 + i), vd (FrD am), vi gi, vi ta, v0] rfl ?_
    obtain ⟨x1, x2, x3⟩ := at_f3 hl g0 g1
    have fg := hb _ (List.mem_of_getElem? x1)
    have lt2 : i < 2 := by omega
    refine ⟨⟨_, rfl⟩, _, x2, ?_⟩
    have fm := fr_minus fg fam
    refine w_lminus fg fam (by omega) (by decide) (by omega) ⟨trivial, ?_⟩
    refine ⟨_, rfl, ⟨_, rfl, rfl⟩, _, _, _, _, rfl, rfl, rfl, x3, ?_⟩
    generalize minusF (fs.getD gi.toNat (0, 1)) am = nw at fm ⊢
    have es : (fs.map FrD).set gi.toNat (FrD nw) = (fs.set gi.toNat nw).map FrD := by rw [List.map_set]
    refine norm [vb m, vd (.tup [.int p, .int q, .int r]), vo ((fs.map FrD).set gi.toNat (FrD nw)), vi (0 + i), vd (FrD am), vi gi, vi ta, v0] rfl ?_
    rw [es]
    have hl2 : (fs.set gi.toNat nw).length = 3 := by rw [List.length_set]; exact hl
    have hb2 : ∀ x ∈ fs.set gi.toNat nw, Fr (250 + 20 * i + 4) x := fun x hx => by
      rcases List.mem_or_eq_of_mem_set hx with hx | rfl
      · exact (hb x hx).mono (by omega)
      · exact fm.mono (by omega)
    generalize fs.set gi.toNat nw = fs at hl2 hb2 ⊢
    refine ifd (fun h1 => ?_) (fun h1 => ?_)
    · obtain ⟨x1, x2, x3⟩ := at_f3 hl2 k0 h1
      have fg := hb2 _ (List.mem_of_getElem? x1)
      have fm := fr_plus fg fam
      refine ⟨⟨_, rfl⟩, _, x2, ?_⟩
      refine w_lplus fg fam (by omega) (by decide) (by omega) ⟨trivial, ?_⟩
      refine ⟨_, rfl, ⟨_, rfl, rfl⟩, _, _, _, _, rfl, rfl, rfl, x3, ?_⟩
      generalize plusF (fs.getD ta.toNat (0, 1)) am = nw at fm ⊢
      have es : (fs.map FrD).set ta.toNat (FrD nw) = (fs.set ta.toNat nw).map FrD := by rw [List.map_set]
      refine norm [vb m, vd (.tup [.int p, .int q, .int r]), vo ((fs.map FrD).set ta.toNat (FrD nw)), vi (0 + i), vd (FrD am), vi gi, vi ta, v0] rfl ?_
      rw [es]
      refine hN _ ⟨m, _, _, _, _, _, hm, by rw [List.length_set]; exact hl2, fun x hx => ?_, rfl, rfl, rfl, rfl, rfl⟩
      rcases List.mem_or_eq_of_mem_set hx with hx | rfl
      · exact (hb2 x hx).mono (by omega)
      · exact fm.mono (by omega)
    · exact hN _ ⟨m, _, _, _, _, _, hm, hl2, fun x hx => (hb2 x hx).mono (by omega), rfl, rfl, rfl, rfl, rfl⟩
  · obtain ⟨m, fs, o3, o4, o5, o6, hm, hl, hb, rfl, b3, b4, b5, b6⟩ := hI
    rw [range_len] at hb
    exact ⟨trivial, k fs m hm ⟨hl, fun x hx => (hb x hx).mono (by omega)⟩⟩
theorem w_papers {row : D} (hc : CsOk cs) (hm : DSt m) (hr : row = .non ∨ ∃ p q r, row = .tup [.int p, .int q, .int r] ∧ Sm 250 p ∧ Sm 250 q ∧ Sm 250 r) (k : ∀ m, DSt m → P (.val (.bl true)) (some m)) : sp__law_papers_right (some m) [.tup (cs.map D.int), row] P PX := by
  unfold sp__law_papers_right
  refine ⟨⟨rfl, rfl⟩, ?_⟩
  have tail : ∀ (p q r : Int) (Q : pEnds) o3 o4 o5, Sm 250 p → Sm 250 q → Sm 250 r → isBor (some o3) = false → isBor (some o4) = false → isBor (some o5) = false → (∀ m o3 o4 o5, DSt m → Q.nx [vb m, vd (.tup (cs.map D.int)), vd (.tup [.int p, .int q, .int r]), o3, o4, o5]) → ∀ xc,
      (pFor (iRange1 (pC (.int 4))) (gP 3)
    (sSeq (sAsg (pCallR sp__law_paper xc 0 (pCons (pVar 2) pNil)) (gP 4))
    (sSeq (sAsg (pCall sp_are_fair xc (pCons (pVar 1) (pCons (pVar 4) pNil))) (gP 5))
    (sIf (pOrT (pNotT (pB (pIsi "bool" (pPk 5)))) (pB (pOp (cmpB .NotEq) (pVar 5) (pF (pCall sp__law_fair_paper xc (pCons (pVar 1) (pCons (pVar 4) pNil)))))))
      (sRet (pC (.bl false)))
      sNext)))) Q [vb m, vd (.tup (cs.map D.int)), vd (.tup [.int p, .int q, .int r]), o3, o4, o5] := fun p q r Q o3 o4 o5 hp hq hr b3 b4 b5 hQ xc => by
    refine ⟨_, rfl, ⟨by decide, by decide⟩, ?_⟩
    refine forL_ix (fun i e => ∃ m o3 o4 o5, DSt m ∧ e = [vb m, vd (.tup (cs.map D.int)), vd (.tup [.int p, .int q, .int r]), o3, o4, o5] ∧ isBor (some o3) = false ∧ isBor (some o4) = false ∧ isBor (some o5) = false) ⟨m, o3, o4, o5, hm, rfl, b3, b4, b5⟩ (fun i d e N hi hI hN => ?_) (fun e hI => ?_)
    · obtain ⟨m, o3, o4, o5, hm, rfl, b3, b4, b5⟩ := hI
      obtain ⟨rfl, hlt⟩ := range_int hi
      refine ⟨nb b3, ?_⟩
      refine ⟨⟨_, _, rfl, rfl⟩, _, _, rfl, rfl, w_paper hm hp hq hr fun fs m hm hf => ⟨trivial, _, rfl, nb b4, ?_⟩⟩
      refine norm [vb m, vd (.tup (cs.map D.int)), vd (.tup [.int p, .int q, .int r]), vi (0 + i), vd (fsD fs), o5] rfl ?_
      refine w_are_fair hc hf ⟨trivial, nb b5, ?_⟩
      refine norm [vb m, vd (.tup (cs.map D.int)), vd (.tup [.int p, .int q, .int r]), vi (0 + i), vd (fsD fs), vd (.bl (fairB cs fs))] rfl ?_
      refine ⟨_, _, rfl, kit_bool_bool, ?_⟩
      refine w_fair_paper hc hf ⟨trivial, ?_⟩
      exact ⟨_, eq_bl, hN _ ⟨m, _, _, _, hm, rfl, rfl, rfl, rfl⟩⟩
    · obtain ⟨m, o3, o4, o5, hm, rfl, b3, b4, b5⟩ := hI
      exact hQ m o3 o4 o5 hm
  rcases hr with rfl | ⟨p, q, r, rfl, hp, hq, hr⟩
  · have h0 : atI (cs.map D.int) 0 = some (.int (cs.getD 0 0)) := at_cs (i := 0) (by rw [hc.len]; decide)
    have h1 : atI (cs.map D.int) 1 = some (.int (cs.getD 1 0)) := at_cs (i := 1) (by rw [hc.len]; decide)
    have h6 : atI (cs.map D.int) 6 = some (.int (cs.getD 6 0)) := at_cs (i := 6) (by rw [hc.len]; decide)
    refine ⟨⟨_, rfl⟩, _, h0, ⟨_, rfl⟩, _, h1, ⟨_, rfl⟩, _, h6, ⟨_, rfl⟩, _, h0, ⟨_, rfl⟩, _, h1, sl (n := 3) (by decide), nb rfl, ?_⟩
    refine norm [vb m, vd (.tup (cs.map D.int)), vd (.tup [.int (cs.getD 0 0), .int (cs.getD 1 0), .int (cs.getD 6 0 - cs.getD 0 0 - cs.getD 1 0)]), v0, v0, v0] rfl ?_
    have s0 := cs_sm hc (i := 0) (by decide)
    have s1 := cs_sm hc (i := 1) (by decide)
    have s6 := cs_sm hc (i := 6) (by decide)
    refine tail _ _ _ _ _ _ _ (s0.mono (by decide)) (s1.mono (by decide)) (((s6.sub s0).sub (s1.mono (by decide))).mono (by decide)) rfl rfl rfl ?_ _
    exact fun m o3 o4 o5 hm => ⟨trivial, k m hm⟩
  · refine tail p q r _ _ _ _ hp hq hr rfl rfl rfl ?_ _
    exact fun m o3 o4 o5 hm => ⟨trivial, k m hm⟩
end
end K79
set_option Elab.async false
set_option linter.all false
set_option maxRecDepth 100000
set_option maxHeartbeats 400000
namespace K79
open PySem PySem.Spec PyProof.Rows L2 PL PLX
def fairP (a b c f o k t x y z n : Int) : Prop := x + y + z = n * t ∧ x ≤ n * a ∧ y ≤ n * b ∧ z ≤ n * c ∧ x + y ≤ n * f ∧ x + z ≤ n * o ∧ y + z ≤ n * k
instance (a b c f o k t x y z n : Int) : Decidable (fairP a b c f o k t x y z n) := by unfold fairP; exact inferInstance
section
variable {P : Sv → Option M → Prop} {PX : Exn → Option M → Prop} {m : M} {a b c f o k t x y z n : Int}
theorem w_fair (hn : n = 1 ∨ n = 2) (h : P (.val (.bl (decide (fairP a b c f o k t x y z n)))) none) : sp__law_fair none [cD a b c f o k t, .tup [.int x, .int y, .int z], .int n] P PX := by
  unfold sp__law_fair
  refine ⟨⟨rfl, rfl⟩, ?_⟩
  have cn : ∀ v, CMul n v ∨ CMulW n v := fun v => cml (by omega)
  refine ⟨_, _, rfl, rfl, rfl, nb rfl, nb rfl, nb rfl, rfl, ?_⟩
  refine norm [vd (cD a b c f o k t), vd (.tup [.int x, .int y, .int z]), vi n, vi x, vi y, vi z, v0, v0] rfl ?_
  refine ⟨⟨_, rfl⟩, _, rfl, cn _, _, rfl, ?_⟩
  refine if2 (fun h1 => ?_) (fun h1 => ?_)
  · have h1 : ¬ x + y + z = n * t := by simpa using h1
    rw [decide_eq_false (fun z => h1 z.1)] at h
    exact ⟨trivial, h⟩
  have h1 : x + y + z = n * t := by simpa using h1
  refine ⟨sl (n := 6) (by decide), nb rfl, ?_⟩
  refine norm [vd (cD a b c f o k t), vd (.tup [.int x, .int y, .int z]), vi n, vi x, vi y, vi z, vd (.tup [.int x, .int y, .int z, .int (x + y), .int (x + z), .int (y + z)]), v0] rfl ?_
  refine ⟨_, rfl, ⟨by decide, by decide⟩, ?_⟩
  refine ⟨nb rfl, ⟨_, rfl⟩, _, rfl, ⟨_, rfl⟩, _, rfl, cn _, sl (n := 1) (by decide), ?_⟩
  refine norml [vd (cD a b c f o k t), vd (.tup [.int x, .int y, .int z]), vi n, vi x, vi y, vi z, vd (.tup [.int x, .int y, .int z, .int (x + y), .int (x + z), .int (y + z)]), vi 0] rfl ?_
  refine ⟨nb rfl, ⟨_, rfl⟩, _, rfl, ⟨_, rfl⟩, _, rfl, cn _, sl (n := 2) (by decide), ?_⟩
  refine norml [vd (cD a b c f o k t), vd (.tup [.int x, .int y, .int z]), vi n, vi x, vi y, vi z, vd (.tup [.int x, .int y, .int z, .int (x + y), .int (x + z), .int (y + z)]), vi 1] rfl ?_
  refine ⟨nb rfl, ⟨_, rfl⟩, _, rfl, ⟨_, rfl⟩, _, rfl, cn _, sl (n := 3) (by decide), ?_⟩
  refine norml [vd (cD a b c f o k t), vd (.tup [.int x, .int y, .int z]), vi n, vi x, vi y, vi z, vd (.tup [.int x, .int y, .int z, .int (x + y), .int (x + z), .int (y + z)]), vi 2] rfl ?_
  refine ⟨nb rfl, ⟨_, rfl⟩, _, rfl, ⟨_, rfl⟩, _, rfl, cn _, sl (n := 4) (by decide), ?_⟩
  refine norml [vd (cD a b c f o k t), vd (.tup [.int x, .int y, .int z]), vi n, vi x, vi y, vi z, vd (.tup [.int x, .int y, .int z, .int (x + y), .int (x + z), .int (y + z)]), vi 3] rfl ?_
  refine ⟨nb rfl, ⟨_, rfl⟩, _, rfl, ⟨_, rfl⟩, _, rfl, cn _, sl (n := 5) (by decide), ?_⟩
  refine norml [vd (cD a b c f o k t), vd (.tup [.int x, .int y, .int z]), vi n, vi x, vi y, vi z, vd (.tup [.int x, .int y, .int z, .int (x + y), .int (x + z), .int (y + z)]), vi 4] rfl ?_
  refine ⟨nb rfl, ⟨_, rfl⟩, _, rfl, ⟨_, rfl⟩, _, rfl, cn _, sl (n := 6) (by decide), ?_⟩
  refine ⟨[decide (x ≤ n * a), decide (y ≤ n * b), decide (z ≤ n * c), decide (x + y ≤ n * f), decide (x + z ≤ n * o), decide (y + z ≤ n * k)], rfl, trivial, ?_⟩
  have e : ([decide (x ≤ n * a), decide (y ≤ n * b), decide (z ≤ n * c), decide (x + y ≤ n * f), decide (x + z ≤ n * o), decide (y + z ≤ n * k)].all id) = decide (fairP a b c f o k t x y z n) := by
    rw [Bool.eq_iff_iff]
    simp [fairP, h1]
  rw [e]
  exact h
theorem w_even (h : P (.val (.bl (decide (x % 2 = 0 ∧ y % 2 = 0 ∧ z % 2 = 0)))) none) : sp__law_is_even none [.tup [.int x, .int y, .int z]] P PX := by
  unfold sp__law_is_even
  refine ⟨⟨rfl, rfl⟩, ?_⟩
  refine ⟨nb rfl, by decide, _, rfl, sl (n := 1) (by decide), nb rfl, by decide, _, rfl, sl (n := 2) (by decide), nb rfl, by decide, _, rfl, sl (n := 3) (by decide), ?_⟩
  refine ⟨[decide (x % 2 = 0), decide (y % 2 = 0), decide (z % 2 = 0)], rfl, trivial, ?_⟩
  have e : ([decide (x % 2 = 0), decide (y % 2 = 0), decide (z % 2 = 0)].all id) = decide (x % 2 = 0 ∧ y % 2 = 0 ∧ z % 2 = 0) := by
    rw [Bool.eq_iff_iff]
    simp
  rw [e]
  exact h
def rowD (t : Int) (p : Int × Int) : D := .tup [.int p.1, .int p.2, .int (2 * t - p.1 - p.2)]
/-- the brute search's rows -/
structure Rows (a b c f o k t : Int) (rows : List (Int × Int)) : Prop where
  ok : ∀ p ∈ rows, fairP a b c f o k t p.1 p.2 (2 * t - p.1 - p.2) 2
  all : ∀ x y, 2 * (t - k) ≤ x → x ≤ 2 * a → 2 * (t - o) ≤ y → y ≤ 2 * b → fairP a b c f o k t x y (2 * t - x - y) 2 → (x, y) ∈ rows
  len : rows.length ≤ 1000000
theorem w_halves (hb : Bd 28 [a, b, c, f, o, k, t]) (h : ∀ rows, Rows a b c f o k t rows → P (.own (.lst (rows.map (rowD t)))) none) : sp__law_halves none [cD a b c f o k t] P PX := by
  unfold sp__law_halves
  refine ⟨⟨rfl, rfl⟩, ?_⟩
  obtain ⟨a0, a1⟩ := hb a (by simp)
  obtain ⟨b0, b1⟩ := hb b (by simp)
  obtain ⟨o0, o1⟩ := hb o (by simp)
  obtain ⟨k0, k1⟩ := hb k (by simp)
  obtain ⟨t0, t1⟩ := hb t (by simp)
  refine ⟨sl (n := 0) (by decide), nb rfl, ?_⟩
  refine norm [vd (cD a b c f o k t), vo [], v0, v0, v0] rfl ?_
  refine ⟨⟨_, rfl⟩, _, rfl, ⟨_, rfl⟩, _, rfl, cml (by decide), ⟨_, rfl⟩, _, rfl, cml (by decide), _, _, rfl, rfl, ⟨by omega, by omega, by omega, by omega⟩, ?_⟩
  refine forL_ix (fun i e => ∃ (rows : List (Int × Int)) (o2 o3 o4 : Option Sv), e = [vd (cD a b c f o k t), vo (rows.map (rowD t)), o2, o3, o4] ∧ isBor (some o2) = false ∧ isBor (some o3) = false ∧ isBor (some o4) = false ∧
    (∀ p ∈ rows, fairP a b c f o k t p.1 p.2 (2 * t - p.1 - p.2) 2) ∧ (∀ x y, 2 * (t - k) ≤ x → x < 2 * (t - k) + i → 2 * (t - o) ≤ y → y ≤ 2 * b → fairP a b c f o k t x y (2 * t - x - y) 2 → (x, y) ∈ rows) ∧ rows.length ≤ i * 300)
    ⟨[], v0, v0, v0, rfl, rfl, rfl, rfl, fun p hp => (by simp at hp), fun x y h1 h2 => by omega, Nat.zero_le _⟩ (fun i d e N hi hI hN => ?_) (fun e hI => ?_)
  · obtain ⟨rows, o2, o3, o4, rfl, b2, b3, b4, r1, r2, r3⟩ := hI
    obtain ⟨rfl, hlt⟩ := range_int hi
    generalize hx : 2 * (t - k) + (i : Int) = x
    refine ⟨nb b2, ?_⟩
    refine ⟨⟨_, rfl⟩, _, rfl, ⟨_, rfl⟩, _, rfl, cml (by decide), ⟨_, rfl⟩, _, rfl, cml (by decide), _, _, rfl, rfl, ⟨by omega, by omega, by omega, by omega⟩, ?_⟩
    refine forL_ix (fun j e => ∃ (rows' : List (Int × Int)) (o3 o4 : Option Sv), e = [vd (cD a b c f o k t), vo (rows'.map (rowD t)), vi x, o3, o4] ∧ isBor (some o3) = false ∧ isBor (some o4) = false ∧
      (∀ p ∈ rows', fairP a b c f o k t p.1 p.2 (2 * t - p.1 - p.2) 2) ∧ (∀ p ∈ rows, p ∈ rows') ∧ (∀ y, 2 * (t - o) ≤ y → y < 2 * (t - o) + j → fairP a b c f o k t x y (2 * t - x - y) 2 → (x, y) ∈ rows') ∧ rows'.length ≤ rows.length + j)
      ⟨rows, o3, o4, rfl, b3, b4, r1, fun p hp => hp, fun y h1 h2 => by omega, Nat.le_refl _⟩ (fun j d e N' hj hJ hN' => ?_) (fun e hJ => ?_)
    · obtain ⟨rows', o3, o4, rfl, b3, b4, q1, q2, q3, q4⟩ := hJ
      obtain ⟨rfl, hlt2⟩ := range_int hj
      generalize hy : 2 * (t - o) + (j : Int) = y
      refine ⟨nb b3, ?_⟩
      refine ⟨⟨_, rfl⟩, _, rfl, cml (by decide), sl (n := 3) (by decide), nb b4, ?_⟩
      refine norm [vd (cD a b c f o k t), vo (rows'.map (rowD t)), vi x, vi y, vd (rowD t (x, y))] rfl ?_
      refine w_fair (.inr rfl) ⟨trivial, ?_⟩
      refine ifd (fun h1 => ?_) (fun h1 => ?_)
      · refine ⟨⟨_, rfl, rfl⟩, _, _, rfl, rfl, ?_, ?_⟩
        · rw [List.length_map]
          exact Nat.lt_of_lt_of_le (by omega : rows'.length < 1000000) (by decide)
        refine hN' _ ⟨rows' ++ [(x, y)], vi y, vd (rowD t (x, y)), ?_, rfl, rfl, fun p hp => ?_, fun p hp => List.mem_append_left _ (q2 p hp), fun y' h2 h3 h4 => ?_, ?_⟩
        · rw [List.map_append]
          rfl
        · rcases List.mem_append.mp hp with hp | hp
          · exact q1 p hp
          · have : p = (x, y) := by simpa using hp
            subst this
            exact h1
        · by_cases e : y' = y
          · subst e
            exact List.mem_append_right _ (by simp)
          · exact List.mem_append_left _ (q3 y' h2 (by omega) h4)
        · rw [List.length_append, List.length_singleton]; omega
      · refine hN' _ ⟨rows', _, _, rfl, rfl, rfl, q1, q2, fun y' h2 h3 h4 => ?_, by omega⟩
        by_cases e : y' = y
        · subst e
          exact absurd h4 h1
        · exact q3 y' h2 (by omega) h4
    · obtain ⟨rows', o3, o4, rfl, b3, b4, q1, q2, q3, q4⟩ := hJ
      rw [range_len] at q3 q4
      refine hN _ ⟨rows', _, _, _, rfl, rfl, b3, b4, q1, fun x' y' h1 h2 h3 h4 h5 => ?_, by omega⟩
      by_cases e : x' = x
      · subst e
        exact q3 y' h3 (by omega) h5
      · exact q2 _ (r2 x' y' h1 (by omega) h3 h4 h5)
  · obtain ⟨rows, o2, o3, o4, rfl, b2, b3, b4, r1, r2, r3⟩ := hI
    rw [range_len] at r2 r3
    exact ⟨trivial, h rows ⟨r1, fun x y h1 h2 h3 h4 h5 => r2 x y h1 (by omega) h3 h4 h5, by omega⟩⟩
end
end K79
set_option Elab.async false
set_option linter.all false
set_option maxRecDepth 100000
set_option maxHeartbeats 400000
namespace K79
open PySem PySem.Spec PyProof.Rows L2 PL PLX
/-! ### the greatest of triples -/
def pyT (p : Int × Int × Int) : PyData := .tuple [.int p.1, .int p.2.1, .int p.2.2]
def ltT (p q : Int × Int × Int) : Prop := p.1 < q.1 ∨ (p.1 = q.1 ∧ (p.2.1 < q.2.1 ∨ (p.2.1 = q.2.1 ∧ p.2.2 < q.2.2)))
instance (p q : Int × Int × Int) : Decidable (ltT p q) := by unfold ltT; exact inferInstance
theorem lt_T (p q : Int × Int × Int) : PySem.W.dataLt (pyT p) (pyT q) = decide (ltT p q) := by
  have e : PySem.W.dataLt (pyT p) (pyT q) = PyProof.Rows.lexLt PyProof.Rows.itemOrd [.inl 1, .inl p.1, .inl 1, .inl p.2.1, .inl 1, .inl p.2.2, .inl 0] [.inl 1, .inl q.1, .inl 1, .inl q.2.1, .inl 1, .inl q.2.2, .inl 0] := rfl
  have it : ∀ x y : Int, PyProof.Rows.itemLt (.inl x) (.inl y) = decide (x < y) := fun _ _ => rfl
  rw [e]
  simp only [PyProof.Rows.lexLt]
  have d1 : decide ((1 : Int) < 1) = false := rfl
  have d0 : decide ((0 : Int) < 0) = false := rfl
  rw [Bool.eq_iff_iff, decide_eq_true_iff]
  simp only [it, d1, d0, Bool.false_or, Bool.not_false, Bool.true_and, Bool.and_false, Bool.or_false, Bool.or_eq_true, Bool.and_eq_true, Bool.not_eq_true', decide_eq_true_eq, decide_eq_false_iff_not, ltT]
  omega
theorem max_T : ∀ (l : List (Int × Int × Int)) (a m : Int × Int × Int), m ∈ a :: l → (∀ y ∈ a :: l, ¬ ltT m y) → PySem.W.maxD (pyT a) (l.map pyT) = pyT m
  | [], a, m, hm, _ => by
    have : m = a := by simpa using hm
    rw [this]
    rfl
  | b :: l, a, m, hm, hx => by
    have e : PySem.W.maxD (pyT a) ((b :: l).map pyT) = PySem.W.maxD (pyT (if ltT a b then b else a)) (l.map pyT) := by
      unfold PySem.W.maxD
      rw [List.map_cons, List.foldl_cons, lt_T]
      congr 1
      by_cases h : ltT a b
      · rw [if_pos (decide_eq_true h), if_pos h]
      · rw [if_neg (by simpa using h), if_neg h]
    rw [e]
    refine max_T l _ m ?_ fun y hy => ?_
    · by_cases h : ltT a b
      · rw [if_pos h]
        rcases List.mem_cons.mp hm with z | z
        · subst z
          exact absurd h (hx b (by simp))
        · exact z
      · rw [if_neg h]
        rcases List.mem_cons.mp hm with z | z
        · exact List.mem_cons.mpr (.inl z)
        · rcases List.mem_cons.mp z with z | z
          · have h2 := hx a (by simp)
            rw [z] at h2
            refine List.mem_cons.mpr (.inl ?_)
            rw [z]
            obtain ⟨a1, a2, a3⟩ := a
            obtain ⟨b1, b2, b3⟩ := b
            unfold ltT at h h2
            simp only at h h2
            simp only [Prod.mk.injEq]
            omega
          · exact List.mem_cons_of_mem _ z
    · rcases List.mem_cons.mp hy with z | z
      · rw [z]
        split
        · exact hx b (by simp)
        · exact hx a (by simp)
      · exact hx y (by simp [z])
def tri (t : Int) (p : Int × Int) : Int × Int × Int := (p.1, p.2, 2 * t - p.1 - p.2)
theorem row_py {t : Int} : ∀ rows : List (Int × Int), D.toPyL (rows.map (rowD t)) = some ((rows.map (tri t)).map pyT)
  | [] => rfl
  | p :: rows => by
    have e : D.toPy (rowD t p) = some (pyT (tri t p)) := rfl
    rw [List.map_cons]
    unfold D.toPyL
    rw [e, row_py rows]
    rfl
theorem alike_T (l : List (Int × Int × Int)) : PySem.W.AlikeAll (l.map pyT) := by
  constructor
  · intro x hx y hy
    obtain ⟨p, _, rfl⟩ := List.mem_map.mp hx
    obtain ⟨q, _, rfl⟩ := List.mem_map.mp hy
    rfl
  · intro x hx
    obtain ⟨p, _, rfl⟩ := List.mem_map.mp hx
    exact fun h => nomatch h
theorem lay_T : ∀ l : List (Int × Int × Int), PyData.canLayAll0 (l.map pyT) = true
  | [] => rfl
  | p :: l => by
    rw [List.map_cons]
    show (PyData.canLay0 (pyT p) && PyData.canLayAll0 (l.map pyT)) = true
    rw [lay_T l]
    rfl
theorem depth_T : ∀ l : List (Int × Int × Int), PyData.depthAll (l.map pyT) ≤ 60
  | [] => Nat.zero_le _
  | p :: l => by
    rw [List.map_cons]
    show max (PyData.depth (pyT p)) (PyData.depthAll (l.map pyT)) ≤ 60
    have h1 : PyData.depth (pyT p) = 1 := rfl
    have := depth_T l
    omega
section
variable {P : Sv → Option M → Prop} {PX : Exn → Option M → Prop} {m : M} {a b c f o k t x y z n : Int}
theorem w_is_int {d : D} (hd : (tyName d).isSome = true) (h : P (.val (.bl (isI d))) none) : sp__law_is_int none [d] P PX := by
  unfold sp__law_is_int
  refine ⟨⟨rfl, rfl⟩, ?_⟩
  cases d with
  | int i => exact ⟨_, _, rfl, kit_int_int, _, _, rfl, kit_int_bool, trivial, h⟩
  | bl b => exact ⟨_, _, rfl, kit_bool_int, _, _, rfl, kit_bool_bool, trivial, h⟩
  | non => exact ⟨_, _, rfl, kit_none_int, trivial, h⟩
  | str x => exact ⟨_, _, rfl, kit_str_int, trivial, h⟩
  | tup x => exact ⟨_, _, rfl, kit_tuple_int, trivial, h⟩
  | lst x => exact ⟨_, _, rfl, kit_list_int, trivial, h⟩
  | lsq x => cases hd
  | obj c f => cases hd
theorem w_greatest (h1 : fairP a b c f o k t x y z 1) (h2 : x = a ∨ x + t = f + o) (h3 : y = b ∨ x + y = f) (h : P (.val (.bl true)) none) : sp__law_greatest_shares none [cD a b c f o k t, .tup [.int x, .int y, .int z]] P PX := by
  unfold sp__law_greatest_shares
  refine ⟨⟨rfl, rfl⟩, ?_⟩
  refine ⟨_, _, rfl, kit_tuple_tuple, _, rfl, ?_⟩
  refine ⟨nb rfl, w_is_int rfl ⟨trivial, sl (n := 1) (by decide), nb rfl, w_is_int rfl ⟨trivial, sl (n := 2) (by decide), nb rfl, w_is_int rfl ⟨trivial, sl (n := 3) (by decide), ?_⟩⟩⟩⟩
  refine ⟨[true, true, true], rfl, ?_⟩
  refine norm [vd (cD a b c f o k t), vd (.tup [.int x, .int y, .int z]), v0] rfl ?_
  refine w_fair (.inl rfl) ⟨trivial, ?_⟩
  refine if2 (fun z => ?_) (fun _ => ?_)
  · rw [decide_eq_true h1] at z
    cases z
  refine ⟨⟨_, rfl⟩, _, rfl, ⟨_, rfl⟩, _, rfl, _, rfl, ?_⟩
  have tail : (sRet (pOrV (pOp (cmpB .Eq) (pIxN 1 (pF (pC (.int 1)))) (pF (pIxN 0 (pF (pC (.int 1)))))) (pOp (cmpB .Eq) (pOp (opB .Add) (pIxN 1 (pF (pC (.int 0)))) (pF (pIxN 1 (pF (pC (.int 1)))))) (pF (pIxN 0 (pF (pC (.int 3)))))))) { nx := fun e => finR false e (P (.val .non)), rt := fun sv e => isOut sv ∧ finR false e (P sv), bk := fun _ => False, ct := fun _ => False } [vd (cD a b c f o k t), vd (.tup [.int x, .int y, .int z]), v0] := by
    refine ⟨⟨_, rfl⟩, _, rfl, ⟨_, rfl⟩, _, rfl, _, rfl, ?_⟩
    refine ifd (fun _ => ⟨trivial, h⟩) (fun n => ?_)
    refine ⟨⟨_, rfl⟩, _, rfl, ⟨_, rfl⟩, _, rfl, ⟨_, rfl⟩, _, rfl, _, rfl, trivial, ?_⟩
    rcases h3 with h3 | h3
    · exact absurd h3 n
    · have e : decide (x + y = f) = true := decide_eq_true h3
      show P (.val (.bl (decide (x + y = f)))) none
      rw [e]
      exact h
  refine if2 (fun n => ?_) (fun _ => tail)
  have n : ¬ x = a := by simpa using n
  refine ⟨⟨_, rfl⟩, _, rfl, ⟨_, rfl⟩, _, rfl, ⟨_, rfl⟩, _, rfl, ⟨_, rfl⟩, _, rfl, _, rfl, ?_⟩
  refine if2 (fun n2 => ?_) (fun _ => tail)
  have n2 : ¬ x + t = f + o := by simpa using n2
  rcases h2 with h2 | h2
  · exact absurd h2 n
  · exact absurd h2 n2
theorem w_tried0 (hb : Bd 28 [a, b, c, f, o, k, t]) (hno : ∀ x y, ¬ fairP a b c f o k t x y (2 * t - x - y) 2) (h : P (.val (.bl true)) none) : sp__law_tried none [cD a b c f o k t, .non] P PX := by
  unfold sp__law_tried
  refine ⟨⟨rfl, rfl⟩, ?_⟩
  refine w_halves hb fun rows hr => ⟨trivial, nb rfl, ?_⟩
  have e : rows = [] := by
    cases rows with
    | nil => rfl
    | cons p r => exact absurd (hr.ok p (by simp)) (hno _ _)
  subst e
  refine norm [vd (cD a b c f o k t), vd .non, vo [], v0, v0] rfl ?_
  exact ⟨_, rfl, trivial, h⟩
def evenP (t : Int) (p : Int × Int) : Bool := decide (p.1 % 2 = 0 ∧ p.2 % 2 = 0 ∧ (2 * t - p.1 - p.2) % 2 = 0)
theorem w_tried1 (hb : Bd 28 [a, b, c, f, o, k, t]) (hz : z = t - x - y) (hf : fairP a b c f o k t (2 * x) (2 * y) (2 * t - 2 * x - 2 * y) 2) (hx : 2 * (t - k) ≤ 2 * x ∧ 2 * x ≤ 2 * a ∧ 2 * (t - o) ≤ 2 * y ∧ 2 * y ≤ 2 * b)
    (hmax : ∀ p q, fairP a b c f o k t p q (2 * t - p - q) 2 → ¬ ltT (2 * x, 2 * y, 2 * t - 2 * x - 2 * y) (p, q, 2 * t - p - q)) (h : P (.val (.bl true)) none) : sp__law_tried none [cD a b c f o k t, .tup [.int x, .int y, .int z]] P PX := by
  unfold sp__law_tried
  refine ⟨⟨rfl, rfl⟩, ?_⟩
  refine w_halves hb fun rows hr => ⟨trivial, nb rfl, ?_⟩
  have hin := hr.all _ _ hx.1 hx.2.1 hx.2.2.1 hx.2.2.2 hf
  refine norm [vd (cD a b c f o k t), vd (.tup [.int x, .int y, .int z]), vo (rows.map (rowD t)), v0, v0] rfl ?_
  refine lcL_ix (fun i acc e => acc = ((rows.take i).filter (evenP t)).map (rowD t) ∧ ∃ o4 : Option Sv, e = [vd (cD a b c f o k t), vd (.tup [.int x, .int y, .int z]), vd (.lst (rows.map (rowD t))), v0, o4] ∧ isBor (some o4) = false) ⟨rfl, v0, rfl, rfl⟩ (fun i d acc e N hi hI hN => ?_) (fun acc e hI => ?_)
  · obtain ⟨rfl, o4, rfl, b4⟩ := hI
    obtain ⟨p, hp, rfl⟩ : ∃ p, rows[i]? = some p ∧ d = rowD t p := by
      rw [List.getElem?_map] at hi
      cases e : rows[i]? with
      | none => rw [e] at hi; cases hi
      | some p => rw [e] at hi; exact ⟨p, rfl, (Option.some.inj hi).symm⟩
    have ht : (rows.take (i + 1)).filter (evenP t) = (rows.take i).filter (evenP t) ++ (if evenP t p = true then [p] else []) := by
      rw [List.take_succ, hp, List.filter_append]
      congr 1
      by_cases he : evenP t p = true
      · simp [he]
      · simp [he]
    refine ⟨nb rfl, ?_⟩
    refine w_even ⟨trivial, ?_⟩
    refine if2 (fun h1 => ?_) (fun h1 => ?_)
    · have h1 : evenP t p = true := h1
      refine ⟨?_, hN _ _ ⟨?_, vd (rowD t p), rfl, rfl⟩⟩
      · rw [List.length_map]
        have h3 : ((rows.take i).filter (evenP t)).length ≤ rows.length := Nat.le_trans (List.length_filter_le _ _) (by rw [List.length_take]; omega)
        have h4 := hr.len
        exact Nat.lt_of_lt_of_le (by omega : ((rows.take i).filter (evenP t)).length < 1000001) (by decide)
      · rw [ht, if_pos h1, List.map_append]
        rfl
    · have h1 : ¬ evenP t p = true := by
        have : evenP t p = false := h1
        rw [this]; simp
      refine hN _ _ ⟨?_, vd (rowD t p), rfl, rfl⟩
      rw [ht, if_neg h1, List.append_nil]
  · obtain ⟨rfl, o4, rfl, b4⟩ := hI
    rw [List.length_map, List.take_length]
    refine ⟨nb rfl, ?_⟩
    generalize hw : rows.filter (evenP t) = wh
    have inw : (2 * x, 2 * y) ∈ wh := by
      rw [← hw, List.mem_filter]
      refine ⟨hin, ?_⟩
      unfold evenP
      simp only [decide_eq_true_eq]
      omega
    refine norm [vd (cD a b c f o k t), vd (.tup [.int x, .int y, .int z]), vd (.lst (rows.map (rowD t))), vo (wh.map (rowD t)), v0] rfl ?_
    cases wh with
    | nil => simp at inw
    | cons w0 ws =>
      have hlen : decide ((0 : Int) < (((w0 :: ws).map (rowD t)).length : Nat)) = true := by
        rw [List.length_map, List.length_cons]
        exact decide_eq_true (by omega)
      refine ifT hlen ?_
      refine .inr ⟨pyT (tri t w0), (ws.map (tri t)).map pyT, row_py (w0 :: ws), alike_T ((w0 :: ws).map (tri t)), lay_T ((w0 :: ws).map (tri t)), depth_T ((w0 :: ws).map (tri t)), fun i d hd hpy => ?_⟩
      have hm : PySem.W.maxD (pyT (tri t w0)) ((ws.map (tri t)).map pyT) = pyT (tri t (2 * x, 2 * y)) := by
        refine max_T (ws.map (tri t)) (tri t w0) (tri t (2 * x, 2 * y)) ?_ fun q hq => ?_
        · have := List.mem_map_of_mem (f := tri t) inw
          simpa using this
        · have hq : q ∈ (w0 :: ws).map (tri t) := by simpa using hq
          obtain ⟨r, hr1, rfl⟩ := List.mem_map.mp hq
          rw [← hw] at hr1
          exact hmax r.1 r.2 (hr.ok r (List.mem_filter.mp hr1).1)
      rw [hm] at hpy
      obtain ⟨p, rfl⟩ : ∃ p, d = rowD t p := by
        rw [List.getElem?_map] at hd
        cases e : (w0 :: ws)[i]? with
        | none => rw [e] at hd; cases hd
        | some p => rw [e] at hd; exact ⟨p, (Option.some.inj hd).symm⟩
      have e1 : pyT (tri t p) = pyT (tri t (2 * x, 2 * y)) := Option.some.inj hpy
      have e2 : p.1 = 2 * x ∧ p.2 = 2 * y := by
        unfold pyT tri at e1
        simp only [PyData.tuple.injEq, List.cons.injEq, PyData.int.injEq] at e1
        exact ⟨e1.1, e1.2.1⟩
      have e3 : eqD (rowD t p) (.tup [.int (2 * x), .int (2 * y), .int (2 * z)]) = some (p.1 == 2 * x && (p.2 == 2 * y && ((2 * t - p.1 - p.2) == 2 * z && true))) := rfl
      have e4 : (p.1 == 2 * x && (p.2 == 2 * y && ((2 * t - p.1 - p.2) == 2 * z && true))) = true := by
        have e5 : 2 * t - p.1 - p.2 = 2 * z := by omega
        rw [e2.1, e2.2] at e5 ⊢
        rw [e5]
        simp
      rw [e4] at e3
      exact ⟨nb rfl, cml (by decide), sl (n := 1) (by decide), nb rfl, cml (by decide), sl (n := 2) (by decide), nb rfl, cml (by decide), sl (n := 3) (by decide), true, e3, trivial, h⟩
theorem w_begin {ns : List Int} (hn : ns.length ≤ 63) (h : P (.own (dS ns 0 0 7 3)) none) : sp__law_begin none [.lsq (ns.map D.int)] P PX := by
  unfold sp__law_begin
  refine ⟨⟨rfl, rfl⟩, ?_⟩
  refine lcL_ix (fun i acc e => acc = (ns.take i).map D.int ∧ ∃ o, e = [vd (.lsq (ns.map D.int)), o] ∧ isBor (some o) = false) ⟨rfl, v0, rfl, rfl⟩ (fun i d acc e N hi hI hN => ?_) (fun acc e hI => ?_)
  · obtain ⟨rfl, o, rfl, b4⟩ := hI
    obtain ⟨p, hp, rfl⟩ : ∃ p, ns[i]? = some p ∧ d = .int p := by
      rw [List.getElem?_map] at hi
      cases e : ns[i]? with
      | none => rw [e] at hi; cases hi
      | some p => rw [e] at hi; exact ⟨p, rfl, (Option.some.inj hi).symm⟩
    refine ⟨nb rfl, ?_, hN _ _ ⟨?_, vi p, rfl, rfl⟩⟩
    · rw [List.length_map, List.length_take]
      exact Nat.lt_of_lt_of_le (by omega : min i ns.length < 1000) (sl (n := 1000) (by decide))
    · rw [List.take_succ, hp, List.map_append]
      rfl
  · obtain ⟨rfl, o, rfl, b4⟩ := hI
    rw [List.length_map, List.take_length]
    exact ⟨sl (n := 5) (by decide), trivial, h⟩
/-- costs that are refused -/
structure BadD (d : D) : Prop where
  ty : (tyName d).isSome = true
  el : ∀ ds, d = .tup ds → ∀ x ∈ ds, (tyName x).isSome = true
  no : goodC d = false
theorem cut_mem {ds : List D} {lo hi : Option Int} {x : D} (h : x ∈ PL.cutD ds lo hi) : x ∈ ds := List.mem_of_mem_drop (List.mem_of_mem_take h)
theorem cut_len {ds : List D} {lo hi : Option Int} : (PL.cutD ds lo hi).length ≤ ds.length := by
  unfold PL.cutD
  rw [List.length_take, List.length_drop]
  omega
theorem w_bad (hm : DSt m) (h : ∀ z d m, DSt m → isOut z → z.fz = some d → BadD d → ((z = .val d) ∨ ∃ ds, z = .own (.lst ds)) → P z (some m)) : sp__law_bad_costs (some m) [cD a b c f o k t] P PX := by
  unfold sp__law_bad_costs
  refine ⟨⟨rfl, rfl⟩, ?_⟩
  refine ⟨⟨_, _, rfl, rfl⟩, _, _, rfl, rfl, w_draw hm (by decide) (by decide) fun wy m hm y0 y1 => ⟨trivial, _, rfl, nb rfl, ?_⟩⟩
  refine norm [vb m, vd (cD a b c f o k t), vi wy, v0, v0] rfl ?_
  refine ⟨⟨_, _, rfl, rfl⟩, _, _, rfl, rfl, w_draw hm (by decide) (by decide) fun pl m hm p0 p1 => ⟨trivial, _, rfl, nb rfl, ?_⟩⟩
  refine norm [vb m, vd (cD a b c f o k t), vi wy, vi pl, v0] rfl ?_
  refine ⟨_, rfl, ?_⟩
  refine ifd (fun h1 => ?_) (fun h1 => ?_)
  · exact ⟨_, rfl, trivial, h _ _ m hm trivial rfl ⟨rfl, fun ds e => (by cases e), rfl⟩ (.inr ⟨_, rfl⟩)⟩
  refine ⟨_, rfl, ?_⟩
  refine ifd (fun h2 => ?_) (fun h2 => ?_)
  · refine ⟨sl (n := 1) (by decide), sl (n := 8) (by decide), trivial, h _ _ m hm trivial rfl ⟨rfl, fun ds e x hx => ?_, rfl⟩ (.inl rfl)⟩
    cases e
    simp at hx
    rcases hx with rfl | rfl | rfl | rfl | rfl | rfl | rfl | rfl <;> rfl
  refine ⟨_, rfl, ?_⟩
  refine ifd (fun h3 => ?_) (fun h3 => ?_)
  · refine ⟨⟨_, rfl⟩, trivial, ?_⟩
    have e : PL.cutD [.int a, .int b, .int c, .int f, .int o, .int k, .int t] (some 1) none = [.int b, .int c, .int f, .int o, .int k, .int t] := rfl
    refine h _ _ m hm trivial rfl ⟨rfl, fun ds e2 x hx => ?_, rfl⟩ (.inl rfl)
    cases e2
    exact ty_c _ rfl x (cut_mem hx)
  refine ⟨_, rfl, ?_⟩
  refine ifd (fun h4 => ?_) (fun h4 => ?_)
  · exact ⟨trivial, h _ _ m hm trivial rfl ⟨rfl, fun ds e => (by cases e), rfl⟩ (.inl rfl)⟩
  obtain ⟨v, _, hv⟩ := at_int (cs := [a, b, c, f, o, k, t]) p0 p1
  have hv : atI [.int a, .int b, .int c, .int f, .int o, .int k, .int t] pl = some (D.int v) := hv
  refine ⟨⟨_, rfl⟩, _, hv, sl (n := 2) (by decide), sl (n := 4) (by decide), ?_⟩
  have key : ∃ od, atI [.bl true, .non, .tup [.int v, .int 1], .str "0"] (wy - 4) = some od ∧ (tyName od).isSome = true ∧ isI od = false := by
    have : wy = 4 ∨ wy = 5 ∨ wy = 6 ∨ wy = 7 := by omega
    rcases this with rfl | rfl | rfl | rfl
    · exact ⟨_, rfl, rfl, rfl⟩
    · exact ⟨_, rfl, rfl, rfl⟩
    · exact ⟨_, rfl, rfl, rfl⟩
    · exact ⟨_, rfl, rfl, rfl⟩
  obtain ⟨od, k1, k2, k3⟩ := key
  refine ⟨_, k1, nb rfl, ?_⟩
  refine norm [vb m, vd (cD a b c f o k t), vi wy, vi pl, vd od] rfl ?_
  have l1 : (PL.cutD [.int a, .int b, .int c, .int f, .int o, .int k, .int t] none (some pl)).length ≤ 7 := cut_len
  have l2 : (PL.cutD [.int a, .int b, .int c, .int f, .int o, .int k, .int t] (some (pl + 1)) none).length ≤ 7 := cut_len
  refine ⟨⟨_, rfl⟩, sl (n := 1) (by decide), sl (by show _ + 1 ≤ 1000; omega), ⟨_, rfl⟩, sl (by rw [List.length_append]; show _ + 1 + _ ≤ 1000; omega), trivial, ?_⟩
  refine h _ _ m hm trivial rfl ⟨rfl, fun ds e x hx => ?_, ?_⟩ (.inl rfl)
  · cases e
    rcases List.mem_append.mp hx with hx | hx
    · rcases List.mem_append.mp hx with hx | hx
      · exact ty_c _ rfl x (cut_mem hx)
      · have : x = od := by simpa using hx
        rw [this]; exact k2
    · exact ty_c _ rfl x (cut_mem hx)
  · have : (PL.cutD [.int a, .int b, .int c, .int f, .int o, .int k, .int t] none (some pl) ++ [od] ++ PL.cutD [.int a, .int b, .int c, .int f, .int o, .int k, .int t] (some (pl + 1)) none).all isI = false := by
      rw [List.all_eq_false]
      exact ⟨od, by simp, by rw [k3]; simp⟩
    unfold goodC
    simp only
    rw [this, Bool.and_false]
end
end K79
set_option Elab.async false
set_option linter.all false
set_option maxRecDepth 100000
set_option maxHeartbeats 400000
namespace K79
open PySem PySem.Spec PyProof.Rows L2 PL PLX
/-! ### the plain law -/
section
variable {a b c f o k t : Int}
theorem min2_lt {i j n : Int} : min2 i j < n ↔ (i < n ∨ j < n) := by unfold min2; split <;> omega
theorem no_half {x y : Int} {w : Str} (h : barD a b c f o k t = .str w) : ¬ fairP a b c f o k t x y (2 * t - x - y) 2 := by
  intro z
  unfold fairP at z
  have h1 : ¬ a + b + c < t := by omega
  have h2 : ¬ min2 (min2 (f + c) (o + b)) (k + a) < t := by rw [min2_lt, min2_lt]; omega
  have h3 : ¬ f + o + k < 2 * t := by omega
  unfold barD at h
  rw [if_neg h1, if_neg h2, if_neg h3] at h
  cases h
/-- the shares -/
def one_ (a f o t : Int) : Int := min2 a (t - (t - o) - (t - f))
def two_ (a b f o t : Int) : Int := min2 b (t - one_ a f o t - (t - f))
def three_ (a b f o t : Int) : Int := t - one_ a f o t - two_ a b f o t
theorem fair_def (h : barD a b c f o k t = .non) : fairD a b c f o k t = .tup [.int (one_ a f o t), .int (two_ a b f o t), .int (three_ a b f o t)] := by
  unfold fairD
  rw [h]
  rfl
theorem fair_non {w : Str} (h : barD a b c f o k t = .str w) : fairD a b c f o k t = .non := by
  unfold fairD
  rw [h]
theorem bar_non (h : barD a b c f o k t = .non) : t ≤ a + b + c ∧ t ≤ f + c ∧ t ≤ o + b ∧ t ≤ k + a ∧ 2 * t ≤ f + o + k := by
  unfold barD at h
  by_cases h1 : a + b + c < t
  · rw [if_pos h1] at h; cases h
  rw [if_neg h1] at h
  by_cases h2 : min2 (min2 (f + c) (o + b)) (k + a) < t
  · rw [if_pos h2] at h; cases h
  rw [if_neg h2] at h
  by_cases h3 : f + o + k < 2 * t
  · rw [if_pos h3] at h; cases h
  rw [min2_lt, min2_lt] at h2
  omega
theorem one_is : (one_ a f o t = a ∧ a ≤ f + o - t) ∨ (one_ a f o t = f + o - t ∧ f + o - t ≤ a) := by
  unfold one_ min2
  split <;> omega
theorem two_is : (two_ a b f o t = b ∧ b ≤ f - one_ a f o t) ∨ (two_ a b f o t = f - one_ a f o t ∧ f - one_ a f o t ≤ b) := by
  unfold two_ min2
  split <;> omega
theorem eq3 {x y z : Int} : eqD (.tup [.int x, .int y, .int z]) (.tup [.int x, .int y, .int z]) = some true := by
  have e : eqD (.tup [.int x, .int y, .int z]) (.tup [.int x, .int y, .int z]) = some (x == x && (y == y && (z == z && true))) := rfl
  rw [e]
  simp
theorem eq_fair : eqD (fairD a b c f o k t) (fairD a b c f o k t) = some true := by
  rcases bar_cases (a := a) (b := b) (c := c) (f := f) (o := o) (k := k) (t := t) with e | ⟨x, e⟩
  · rw [fair_def e]
    exact eq3
  · rw [fair_non e]
    rfl
theorem eq_bar : eqD (barD a b c f o k t) (barD a b c f o k t) = some true := by
  rcases bar_cases (a := a) (b := b) (c := c) (f := f) (o := o) (k := k) (t := t) with e | ⟨x, e⟩
  · rw [e]
    rfl
  · rw [e]
    show some (decide (x = x)) = some true
    simp
theorem sm_big {x B : Int} (hB : B ≤ 3 * 2 ^ 200 + 4) (h0 : -B ≤ x) (h1 : x ≤ B) : Sm 210 x := by unfold Sm; omega
theorem bd_cs {cs : List Int} {way : Int} (hl : cs.length = 7) (hb : Bd (costB way) cs) : CsOk cs := ⟨hl, fun x hx => by
  obtain ⟨h0, h1⟩ := hb x hx
  refine sm_big ?_ h0 h1
  unfold costB
  split <;> omega⟩
/-- behind the draws: the tail of the law -/
theorem pure_law (ns : List Int) (hn : ns.length ≤ 63) : semFn 7 1 false b_law none [.lsq (ns.map D.int)] (fun z _ => z = .val (.bl true)) (fun _ _ => False) := by
  refine ⟨⟨rfl, rfl⟩, ?_⟩
  refine w_begin hn ⟨trivial, nb rfl, ?_⟩
  generalize hS : D.lsq (ns.map D.int) = sc
  refine norm [vd sc, some (.own (dS ns 0 0 7 3)), v0, v0, v0, v0, v0, v0] rfl ?_
  refine ⟨⟨_, _, rfl, rfl⟩, _, _, rfl, rfl, w_draw ⟨ns, 0, 0, 7, 3, rfl, Int.le_refl 0⟩ (by decide) (by decide) fun way m hm y0 y1 => ⟨trivial, _, rfl, nb rfl, ?_⟩⟩
  refine norm [vd sc, some (.own m), vi way, v0, v0, v0, v0, v0] rfl ?_
  refine ⟨⟨_, _, rfl, rfl⟩, _, _, rfl, rfl, w_costs (way := way) hm fun cs m hm hl hb => ⟨trivial, _, rfl, nb rfl, ?_⟩⟩
  have hc := bd_cs hl hb
  obtain ⟨a, b, c, f, o, k, t, rfl⟩ : ∃ a b c f o k t, cs = [a, b, c, f, o, k, t] := by
    match cs, hl with
    | [a, b, c, f, o, k, t], _ => exact ⟨a, b, c, f, o, k, t, rfl⟩
  refine norm [vd sc, some (.own m), vi way, vd (cD a b c f o k t), v0, v0, v0, v0] rfl ?_
  refine w_bar ⟨trivial, nb rfl, ?_⟩
  refine norm [vd sc, some (.own m), vi way, vd (cD a b c f o k t), vd (barD a b c f o k t), v0, v0, v0] rfl ?_
  refine w_complaint ⟨trivial, nb rfl, ?_⟩
  refine norm [vd sc, some (.own m), vi way, vd (cD a b c f o k t), vd (barD a b c f o k t), vd (barD a b c f o k t), v0, v0] rfl ?_
  refine w_fair_shares ⟨trivial, nb rfl, ?_⟩
  refine norm [vd sc, some (.own m), vi way, vd (cD a b c f o k t), vd (barD a b c f o k t), vd (barD a b c f o k t), vd (fairD a b c f o k t), v0] rfl ?_
  -- the end, behind all tests but the last ones
  have tail : ∀ m, DSt m → (fairD a b c f o k t = .non ∨ ∃ p q r, fairD a b c f o k t = .tup [.int p, .int q, .int r] ∧ Sm 250 p ∧ Sm 250 q ∧ Sm 250 r) → (sSeq (sIf (pNotT (pB (pCallR sp__law_papers_right (fun x e => finR false e fun _ => False) 1 (pCons (pVar 3) (pCons (pVar 6) pNil)))))
    (sRet (pC (.bl false)))
    sNext)
  (sSeq (sAsg (pCallR sp__law_bad_costs (fun x e => finR false e fun _ => False) 1 (pCons (pVar 3) pNil)) (gP 7))
  (sSeq (sIf (pOrT (pNotT (pB (pCall sp__law_shares_refused (fun x e => finR false e fun _ => False) (pCons (pVar 7) pNil)))) (pNotT (pB (pCall sp__law_complaint_refused (fun x e => finR false e fun _ => False) (pCons (pVar 7) pNil)))))
    (sRet (pC (.bl false)))
    sNext)
  (sRet (pAndV (pOp (cmpB .Eq) (pCall sp_fair_shares (fun x e => finR false e fun _ => False) (pCons (pVar 3) pNil)) (pPk 6)) (pOp (cmpB .Eq) (pCall sp_complaint (fun x e => finR false e fun _ => False) (pCons (pVar 3) pNil)) (pPk 5)))))))
      { nx := fun e => finR false e fun _ => (Sv.val .non) = .val (.bl true), rt := fun sv e => isOut sv ∧ finR false e fun _ => sv = .val (.bl true), bk := fun _ => False, ct := fun _ => False }
      [vd sc, some (.own m), vi way, vd (cD a b c f o k t), vd (barD a b c f o k t), vd (barD a b c f o k t), vd (fairD a b c f o k t), v0] := fun m hm hrow => by
    refine ⟨⟨_, _, rfl, rfl⟩, _, _, rfl, rfl, w_papers (cs := [a, b, c, f, o, k, t]) hc hm hrow fun m hm => ⟨trivial, _, rfl, ?_⟩⟩
    refine ⟨⟨_, _, rfl, rfl⟩, _, _, rfl, rfl, w_bad hm fun z d m hm hz hfz hbad hzz => ⟨hz, _, rfl, nb rfl, ?_⟩⟩
    have fin : ∀ d, BadD d → (sSeq (sIf (pOrT (pNotT (pB (pCall sp__law_shares_refused (fun x e => finR false e fun _ => False) (pCons (pVar 7) pNil)))) (pNotT (pB (pCall sp__law_complaint_refused (fun x e => finR false e fun _ => False) (pCons (pVar 7) pNil)))))
    (sRet (pC (.bl false)))
    sNext)
  (sRet (pAndV (pOp (cmpB .Eq) (pCall sp_fair_shares (fun x e => finR false e fun _ => False) (pCons (pVar 3) pNil)) (pPk 6)) (pOp (cmpB .Eq) (pCall sp_complaint (fun x e => finR false e fun _ => False) (pCons (pVar 3) pNil)) (pPk 5)))))
      { nx := fun e => finR false e fun _ => (Sv.val .non) = .val (.bl true), rt := fun sv e => isOut sv ∧ finR false e fun _ => sv = .val (.bl true), bk := fun _ => False, ct := fun _ => False }
      [vd sc, some (.own m), vi way, vd (cD a b c f o k t), vd (barD a b c f o k t), vd (barD a b c f o k t), vd (fairD a b c f o k t), vd d] := fun d hb => by
      refine w_refF hb.ty hb.el hb.no ⟨trivial, ?_⟩
      refine w_refC hb.ty hb.el hb.no ⟨trivial, ?_⟩
      refine w_fair_shares ⟨trivial, ?_⟩
      refine ⟨true, eq_fair, ?_⟩
      refine w_complaint ⟨trivial, ?_⟩
      exact ⟨true, eq_bar, trivial, rfl⟩
    rcases hzz with rfl | ⟨ds, rfl⟩
    · refine norm [vd sc, some (.own m), vi way, vd (cD a b c f o k t), vd (barD a b c f o k t), vd (barD a b c f o k t), vd (fairD a b c f o k t), vd d] rfl ?_
      exact fin d hbad
    · cases hfz
      refine norm [vd sc, some (.own m), vi way, vd (cD a b c f o k t), vd (barD a b c f o k t), vd (barD a b c f o k t), vd (fairD a b c f o k t), vo ds] rfl ?_
      refine w_refF hbad.ty hbad.el hbad.no ⟨trivial, ?_⟩
      refine w_refC hbad.ty hbad.el hbad.no ⟨trivial, ?_⟩
      refine w_fair_shares ⟨trivial, ?_⟩
      refine ⟨true, eq_fair, ?_⟩
      refine w_complaint ⟨trivial, ?_⟩
      exact ⟨true, eq_bar, trivial, rfl⟩
  rcases bar_cases (a := a) (b := b) (c := c) (f := f) (o := o) (k := k) (t := t) with e | ⟨x, e⟩
  · have e2 := fair_def e
    have bn := bar_non e
    have o1 := one_is (a := a) (f := f) (o := o) (t := t)
    have o2 := two_is (a := a) (b := b) (f := f) (o := o) (t := t)
    have o3 : three_ a b f o t = t - one_ a f o t - two_ a b f o t := rfl
    have tl := tail
    rw [e, e2] at tl ⊢
    generalize one_ a f o t = p at *
    generalize two_ a b f o t = q at *
    generalize three_ a b f o t = r at *
    have hsm : Sm 250 p ∧ Sm 250 q ∧ Sm 250 r := by
      have ha := hc.sm a (by simp)
      have hb' := hc.sm b (by simp)
      have hf := hc.sm f (by simp)
      have ho := hc.sm o (by simp)
      have ht := hc.sm t (by simp)
      unfold Sm at *
      omega
    have hrow : D.tup [.int p, .int q, .int r] = .non ∨ ∃ p' q' r', D.tup [.int p, .int q, .int r] = .tup [.int p', .int q', .int r'] ∧ Sm 250 p' ∧ Sm 250 q' ∧ Sm 250 r' := .inr ⟨p, q, r, rfl, hsm⟩
    have hf1 : fairP a b c f o k t p q r 1 := by unfold fairP; omega
    refine w_greatest hf1 (by omega) (by omega) ⟨trivial, ?_⟩
    refine ifd (fun h1 => ?_) (fun h1 => ?_)
    · have hb28 : Bd 28 [a, b, c, f, o, k, t] := by
        unfold costB at hb
        rw [if_pos h1] at hb
        exact hb
      have hf2 : fairP a b c f o k t (2 * p) (2 * q) (2 * t - 2 * p - 2 * q) 2 := by unfold fairP at *; omega
      have hx : 2 * (t - k) ≤ 2 * p ∧ 2 * p ≤ 2 * a ∧ 2 * (t - o) ≤ 2 * q ∧ 2 * q ≤ 2 * b := by unfold fairP at hf1; omega
      refine w_tried1 hb28 (by omega) hf2 hx (fun u v huv => ?_) ⟨trivial, ?_⟩
      · unfold ltT
        unfold fairP at huv
        simp only
        omega
      · exact tl m hm hrow
    · exact tl m hm hrow
  · have e2 := fair_non e
    have tl := tail
    rw [e, e2] at tl ⊢
    have ew : eqD (.str x) (.str x) = some true := by
      show some (decide (x = x)) = some true
      simp
    refine ⟨_, _, rfl, kit_str_str, true, ew, ?_⟩
    refine ifd (fun h1 => ?_) (fun h1 => ?_)
    · have hb28 : Bd 28 [a, b, c, f, o, k, t] := by
        unfold costB at hb
        rw [if_pos h1] at hb
        exact hb
      refine w_tried0 hb28 (fun u v => no_half e) ⟨trivial, ?_⟩
      exact tl m hm (.inl rfl)
    · exact tl m hm (.inl rfl)
end
end K79
set_option Elab.async false
set_option linter.all false
set_option maxRecDepth 100000
set_option maxHeartbeats 4000000
open PySem PySem.W PySem.Calls PyProof.Rows
theorem PySem.Challenge.cw_shelfmill_k79_fair_shares_holds : PySem.Challenge.rw_shelfmill_k79_fair_shares.Holds := by
  w_on; o_law
  refine HandSHeadRun.head_any (r := OpenLaw.row PySem.Challenge.rw_shelfmill_k79_fair_shares) (q := view (OpenLaw.row PySem.Challenge.rw_shelfmill_k79_fair_shares).prog [41]) (H := K79.hk) (ob := K79.ob) (M := 2920) (loose := ([PySem.Str.ofString "ShelfmillError", PySem.Str.ofString "BadArgument", PySem.Str.ofString "is_whole", PySem.Str.ofString "common", PySem.Str.ofString "fraction", PySem.Str.ofString "plus", PySem.Str.ofString "compare", PySem.Str.ofString "check_costs", PySem.Str.ofString "complaint", PySem.Str.ofString "fair_shares", PySem.Str.ofString "are_fair", PySem.Str.ofString "_law_begin", PySem.Str.ofString "_law_draw", PySem.Str.ofString "_law_is_int", PySem.Str.ofString "_law_number", PySem.Str.ofString "_law_common", PySem.Str.ofString "_law_fraction", PySem.Str.ofString "_law_below", PySem.Str.ofString "_law_minus", PySem.Str.ofString "_law_plus", PySem.Str.ofString "_law_signed", PySem.Str.ofString "_law_above", PySem.Str.ofString "_law_costs", PySem.Str.ofString "_law_bar", PySem.Str.ofString "_law_fair", PySem.Str.ofString "_law_halves", PySem.Str.ofString "_law_is_even", PySem.Str.ofString "_law_greatest_shares", PySem.Str.ofString "_law_tried", PySem.Str.ofString "_law_paper", PySem.Str.ofString "_law_paid", PySem.Str.ofString "_law_fair_paper", PySem.Str.ofString "_law_papers_right", PySem.Str.ofString "_law_bad_costs", PySem.Str.ofString "_law_shares_refused", PySem.Str.ofString "_law_complaint_refused", PySem.Str.ofString "GROUPS"] : List PySem.Str)) (d := HandSHeadRun.topDef (OpenLaw.row PySem.Challenge.rw_shelfmill_k79_fair_shares).prog 41) (kwd := []) K79.ob_eq
    (by kernel_rfl) (fun s => by kernel_rfl) K79.run (by kernel_rfl) (by kernel_rfl) (by kernel_rfl) (by rfl) (by first | assumption | decide +kernel) (by decide +kernel) ⟨rfl, rfl, rfl, rfl, rfl, by decide +kernel⟩ ?hw ?hc
  case hw => w_witness2
  case hc =>
    refine L2.walk_ofE (l := PySem.Challenge.rw_shelfmill_k79_fair_shares) (n := 63) (k := 8) (x := "script") (CX := fun _ _ _ _ _ _ => False) rfl (by decide) (by kernel_rfl) ⟨rfl, by decide, by decide⟩ ?F (fun _ _ _ _ z => z)
    intro w mg fa h Y G hmg0
    obtain ⟨K, KX, c⟩ := Y
    have hmg : mg ("law" : PySem.Str) = some (.ref fa) := by
      have e : (HandSHeadRun.topDef (OpenLaw.row PySem.Challenge.rw_shelfmill_k79_fair_shares).prog 41).name = ("law" : PySem.Str) := by kernel_rfl
      rw [← e]
      exact hmg0
    obtain ⟨fd, F⟩ := c.def_ 34 (d := K79.d_law) rfl rfl rfl
    have e := hmg.symm.trans (He.glo_ok KX G (c.fact (f := .glo "law") (by simp [K79.tb, K79.faT])))
    cases e
    have b := L2.FunD.bindsA (ps := ["script"]) F fun _ _ _ _ _ _ us hl => match us, hl with | [_], _ => rfl
    exact ⟨K, fd, (fun vs H Q _ => PL.l2sp K mg (PL.semFn 7 1 false K79.b_law) vs H Q fun _ _ _ => False), KX, fun s u => b s [u] rfl, PL.law_at (n := 63) K79.pure_law, fun base _ _ => PL.law_fn (n := 60) (nloc := 7) (p := K79.b_law) (S := K79.S_law) (d := K79.d_law) F rfl K79.sc_law rfl rfl rfl K79.tie_law (K79.com c KX G K79.S_law rfl rfl rfl rfl)
      (PL.gok_fn (K79.has_complaint c KX G) (by decide) (PL.gok_fn (K79.has_fair_shares c KX G) (by decide) (PL.gok_fn (K79.has__law_complaint_refused c KX G) (by decide) (PL.gok_fn (K79.has__law_shares_refused c KX G) (by decide) (PL.gok_fn (K79.has__law_bad_costs c KX G) (by decide) (PL.gok_fn (K79.has__law_papers_right c KX G) (by decide) (PL.gok_fn (K79.has__law_tried c KX G) (by decide) (PL.gok_fn (K79.has__law_greatest_shares c KX G) (by decide) (PL.gok_fn (K79.has__law_bar c KX G) (by decide) (PL.gok_fn (K79.has__law_costs c KX G) (by decide) (PL.gok_fn (K79.has__law_draw c KX G) (by decide) (PL.gok_fn (K79.has__law_begin c KX G) (by decide) PL.gok_nil))))))))))))⟩
