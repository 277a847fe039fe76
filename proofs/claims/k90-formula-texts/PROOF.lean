import PyProof.Rows.All
import Wide.All
import OpenK.AllK
import Wide.FinOn
import HandS.ForSpec
import HandS.Defaults
import HandS.ExcOwn
import HandS.HeadEnd
import HandS.ForMost
import HandS.Wide
import HandS.TupAny
import HandS.IsInst
import HandS.TryOnly
import HandS.Exc
import HandS.Flt
import KE.DataMinMax
import HandS.Steps
import PyProof.StrBlock2
import PyProof.ReprRoads
import HandS.Zip
import KE.GoesEnum
import KE.GoesMore
import PyProof.EqAt
import PyProof.EqKinds
import PyProof.TupleCall
import KE.KFromBytes
import KE.KSuper
import KE.KExcSuper
import HandS.Base
import HandS.Call
import HandS.List
import HandS.Ends
import HandS.ExcInit
import HandS.ExcField
import HandS.ExcIs
import HandS.TryMany
import KE.KIsAll
import KE.KTryMore
import HandS.Text
import HandS.Style
import HandS.Iter
import HandS.More
import HandS.Comp
import HandS.Words
import KE.KStateDown
import HandS.Head0
import HandS.Head1
import HandS.Head2
import HandS.HeadHook1
import HandS.HeadHook2
import HandS.HeadHook3
import PySem.Challenge.RW_shelfmill_k90_formula_texts_whole
import KE.IntTextLaws
import PyProof.ReprLen
import PyProof.Rows.StrJoinRep
set_option Elab.async false
set_option linter.all false
set_option maxRecDepth 100000
set_option maxHeartbeats 4000000
/-! PLG: defs' promises where no repr is under way (guards: none), calls of them, the head. -/
namespace PL
open PySem PySem.Spec PyProof.Rows L2

structure FnG (P : Program) (w : World) (K : PySem.W.Frag) (mg : Str → Option Value) (base : Heap) (CX : CXT) (k : Nat) (f : Addr) (fd : FuncData) (ps : List Str) (sp : Sp) : Prop where
  len : ∀ xs H Q E, sp xs H Q E → xs.length = ps.length
  run : ∀ (A : Around) (outer : List Env) (s : Shared) (H : Hp) (args : Args) (us : List Value) (xs : List V) (Q : VK) (E : XK), A.guards = some [] → Room k A → Env0 P w K mg base A outer s H →
    BindsTo s fd args (ps.zip us) → Vals xs us → sp xs H Q E → codeAny (model P w) A (.call (.ref f) args) (CR CX outer P w H s Q E) s
section
variable {P : Program} {w : World} {K : PySem.W.Frag} {mg : Str → Option Value} {base : Heap} {CX : CXT} {j k : Nat} {f : Addr} {fd : FuncData} {ps : List Str} {sp sp' : Sp}
theorem FnG.mono (F : FnG P w K mg base CX j f fd ps sp) (h : j ≤ k) : FnG P w K mg base CX k f fd ps sp := ⟨F.len, fun A o s H as us xs Q E hg hr => F.run A o s H as us xs Q E hg (hr.mono h)⟩
theorem FnG.imp (F : FnG P w K mg base CX k f fd ps sp) (h : ∀ xs H Q E, sp' xs H Q E → sp xs H Q E) : FnG P w K mg base CX k f fd ps sp' :=
  ⟨fun xs H Q E q => F.len xs H Q E (h _ _ _ _ q), fun A o s H as us xs Q E hg hr e b v q => F.run A o s H as us xs Q E hg hr e b v (h _ _ _ _ q)⟩
theorem FunD.okG {x qual : Str} {params : Arguments} {body : List Stmt} {scope : Scope} {dvs : List V} {kws : List (Str × V)} {N : List Str} (F : FunD K x qual params body scope dvs kws f fd) (S : FnScope N ps scope) (len : ∀ xs H Q E, sp xs H Q E → xs.length = ps.length)
    (hB : ∀ (c : Value) (A : Around) (o : List Env) (s : Shared) (H : Hp) (xs : List V) (Q : VK) (E : XK), A.guards = some [] → Room k (A.deeper (envOfC qual scope s.heap.objs.size f c)) → sp xs H Q E →
      ∃ t, PSs (cxOf CX P w K mg base N qual scope f c A o s H E) body t ∧ t { nx := fun _ H' => Q .non H', rt := Q } (start N xs) H) : FnG P w K mg base CX (k + 1) f fd ps sp := by
  obtain ⟨oc, od, dV, kV, doc, pm, an, c, ct, osl, rfl, lk, hcd, _, _⟩ := F.ex
  constructor
  · exact len
  intro A o s H as us xs Q E hg hr e0 hb r hsp
  have hl : xs.length = ps.length := len _ _ _ _ hsp
  have KX : K.In s.heap := e0.mod.kin.keeps fun b ob e => (e0.bs b ob e).1
  have hk : ∀ y ∈ ps.zip us, scope.names.lookup y.1 = some .local ∨
      (scope.names.lookup y.1 = some .cell ∧ ((cellsFrom (s.heap.objs.size + 1) scope.names []).lookup y.1).isSome = true) := by
    rintro ⟨n, v⟩ hy
    exact (S.par n (List.of_mem_zip hy).1).imp id fun q => ⟨q, PySem.W.cellsFrom_some _ _ _ (.inl q)⟩
  refine codeAny_call_function hr.depth (KX _ _ lk) rfl S.co S.gen rfl (PySem.W.codeRec_of KX hcd)
    (hb _ _ _ _ (wpAny_newFunctionEnv_cells S.kind hk fun env he s1 z => ?_))
  subst he
  refine ⟨(e0.mod.nolimit.keeps fun b ob e => (e0.bs b ob e).1).keeps z.toInCall.keep, codeAny_func ?_⟩
  obtain ⟨t, ht, hq⟩ := hB c A o s H xs Q E hg (hr.deeper _) hsp
  refine wpAny_mono (ht.run [] s1 (start N xs) H _
    (inv_start S hr.hd e0 hl r z : Inv (cxOf CX P w K mg base N qual scope f c A o s H E) [] (start N xs) H s1) hq) (fun fl s' hs => ?_) fun e s' hs => hs
  match fl, hs with
  | .ret u, ⟨v, _, H', J, rv, q⟩ => exact ⟨v, H', J.os, J.bare, J.base, J.hok, rv, q⟩
  | .next, ⟨_, H', J, q⟩ => exact ⟨V.non, H', J.os, J.bare, J.base, J.hok, rfl, q⟩
  | .brk, ⟨_, _, _, q⟩ => exact q.elim
  | .cont, ⟨_, _, _, q⟩ => exact q.elim
end
section
variable {X : Cx} {CX : CXT} {k : Nat} {f : Addr} {fd : FuncData} {ps : List Str} {sp : Sp} {E : L2.St → XK} {x : Str} {p pos : Pos} {e : Expr} {es : List Expr} {t : TA}
theorem pe_callG (F : FnG X.prog X.w X.K X.mg X.base CX k f fd ps sp) (hgd : X.A.guards = some []) (hr : Room k X.A) (hg : Gl X x) (hm : X.mg x = some (.ref f)) (hk : PySem.W.keepIn X.K (.ref f) = true) (hb : Binds X.K fd ps []) (hx : ∀ σ, PassesAt CX X σ (E σ))
    (ha : PA X (e :: es) t) (hdb : (x == ("__debug__" : Str)) = false) (he : starEach (e :: es) X.env = (false, eval e X.env) :: starEach es X.env) (hpl : (backTo pos (starEach es X.env)).any (·.1) = false) :
    PE X (.Call (.Name x p) (e :: es) [] pos) (tCallS sp E t) := by
  constructor
  intro pins s σ H Q I h
  refine wpAny_Call_Name_kw (ld_glob I hg hm (PySem.W.callWith_K (h₀ := X.base) I.ok.mod.kin hk (thn (ha.run pos pins s σ H _ I h) fun us s1 ⟨vs, H1, I1, r, q⟩ => ⟨I1.kIn, ?_⟩) he hpl) hdb)
  have q : sp vs H1 Q (E σ) := q
  have b := hb s1 us I1.kIn (by rw [List.append_nil, ← r.length]; exact F.len _ _ _ _ q)
  rw [List.append_nil] at b
  refine wpAny_call (codeAny_mono (F.run X.A X.stack s1 H1 ⟨us, []⟩ us vs Q (E σ) hgd hr I1.env0 b r q) fun z s' hq => ?_)
  match z, hq with
  | .error err, hq => exact hx σ pins H1 s1 err s' I1 hq
  | .ok (.ret u), hq => exact I1.after hq
  | .ok .next, hq => exact False.elim hq
  | .ok .brk, hq => exact False.elim hq
  | .ok .cont, hq => exact False.elim hq
end
end PL
set_option Elab.async false
set_option linter.all false
set_option maxRecDepth 100000
set_option maxHeartbeats 4000000
/-! PLG2: the head of a law whose def promises FnG. -/
namespace PL
open PySem PySem.Spec PyProof.Rows L2
section
variable {P : Program} {w : World} {K : PySem.W.Frag} {mg : Str → Option Value} {k : Nat} {fa a : Addr} {fd : FuncData} {x : Str} {sp : Sp} {s1 : Shared}
abbrev CXn : CXT := fun _ _ _ _ _ _ => False
/-- from a heap in which at most the script is tracked -/
theorem head_core {mb : Str → Option Value} {vs : List Value} (KX : K.In s1.heap) (hns : s1.heap.Ns mainGlobals mg) (hb : s1.heap.Ns builtinsNs mb) (hbb : ∀ y : Str, y ≠ "__name__" → mb y = bootBuiltins y) (hlim : s1.heap.NoLimit) (hg : s1.gens = #[])
    (ha : s1.heap.get? a = some { cls := .type "list", data := .seq vs.toArray }) (hr : Room k callerA) (F : ∀ base : Heap, K.In base → base.Ns mainGlobals mg → FnG P w K mg base CXn k fa fd [x] sp) (hbind : ∀ (s : Shared) (u : Value), BindsTo s fd ⟨[u], []⟩ [(x, u)])
    {H : Hp} (hO : Only H) (hsp : sp [.ref a] H (fun v _ => v = .bl true) fun _ _ _ => False) (hok : HOk P w H s1.heap) (hA : ∀ b, H b ≠ none → b = a) (hK : H a ≠ none → K.lookup a = none) :
    codeAny (model P w) callerA (.call (.ref fa) ⟨[.ref a], []⟩) (fun r s' => r = .ok (.ret (.bool true)) ∧ OldK s1.heap s'.heap ∧ s'.os = s1.os ∧ AllBare s'.gens) s1 := by
  have up : ∀ {b : Addr} {o : Obj}, s1.heap.get? b = some o → H b = none → (hidT s1.heap H).get? b = some o := fun e n => hidT_get e n
  have noD : ∀ {b : Addr} {o : Obj} {es : Array DictEntry} {ep : Nat}, s1.heap.get? b = some o → o.data = .dict es ep → H b = none := by
    intro b o es ep e d
    by_cases q : H b = none
    · exact q
    · have e' := hA b q
      rw [e', ha] at e
      cases e
      cases (show Data.seq vs.toArray _ = Data.dict es ep from d)
  have nsK : ∀ {b : Addr} {m : Str → Option Value}, s1.heap.Ns b m → (hidT s1.heap H).Ns b m := by
    rintro b m ⟨o, es, ep, e, d, r⟩
    exact ⟨o, es, ep, up e (noD e d), d, r⟩
  have hKb : K.In (hidT s1.heap H) := by
    intro b o e
    refine up (KX b o e) ?_
    by_cases q : H b = none
    · exact q
    · have e' := hA b q
      subst e'
      have z := hK q
      rw [z] at e
      cases e
  have hM : Mod K mg (hidT s1.heap H) := by
    obtain ⟨mc, h1, h2⟩ := hlim
    exact ⟨hKb, nsK hns, ⟨mb, nsK hb, hbb⟩, ⟨mc, nsK h1, h2⟩⟩
  have e0 : Env0 P w K mg (hidT s1.heap H) callerA [] s1 H := by
    refine ⟨rfl, hM, fun b o e => of_hidT e, Nat.le_of_eq (hidT_size _ _), trivial, ?_, hok, .of_eq hg⟩
    intro b z
    cases z
  refine codeAny_mono ((F _ hKb (nsK hns)).run callerA [] s1 H ⟨[.ref a], []⟩ [.ref a] [.ref a] _ _ rfl hr e0 (hbind s1 (.ref a)) (.cons rfl .nil) hsp) ?_
  intro r s' h
  match r, h with
  | .error e, h => exact h.elim
  | .ok .next, h => exact False.elim h
  | .ok .brk, h => exact False.elim h
  | .ok .cont, h => exact False.elim h
  | .ok (.ret u), ⟨v, H', os, bare, un, hok', r', q⟩ =>
    have q : v = .bl true := q
    subst q
    have r' : u = Value.bool true := r'
    subst r'
    refine ⟨rfl, OldK.of_keep fun b o e => ?_, os, bare⟩
    rcases hO b with z | ⟨ob, xs, z⟩
    · exact un.keep b o e z (by intro y; cases y) (by intro y; cases y)
    · obtain ⟨e1, _⟩ := hok b _ z
      obtain ⟨e2, _⟩ := hok' b _ (un.frzs b ob _ z)
      rw [e] at e1
      cases e1
      exact e2
theorem law_callG {mb : Str → Option Value} {vs : List Value} {ns : List Int} (KX : K.In s1.heap) (hns : s1.heap.Ns mainGlobals mg) (hb : s1.heap.Ns builtinsNs mb) (hbb : ∀ y : Str, y ≠ "__name__" → mb y = bootBuiltins y) (hlim : s1.heap.NoLimit) (hg : s1.gens = #[])
    (ha : s1.heap.get? a = some { cls := .type "list", data := .seq vs.toArray }) (hi : IntsAre vs ns) (hl : ns.length ≤ sizeLine) (hr : Room k callerA) (F : ∀ base : Heap, K.In base → base.Ns mainGlobals mg → FnG P w K mg base CXn k fa fd [x] sp) (hbind : ∀ (s : Shared) (u : Value), BindsTo s fd ⟨[u], []⟩ [(x, u)])
    (hsp : ∀ H : Hp, Only H → SqL K H a (ns.map V.int) → sp [.ref a] H (fun v _ => v = .bl true) fun _ _ _ => False) :
    codeAny (model P w) callerA (.call (.ref fa) ⟨[.ref a], []⟩) (fun r s' => r = .ok (.ret (.bool true)) ∧ OldK s1.heap s'.heap ∧ s'.os = s1.os ∧ AllBare s'.gens) s1 := by
  have rv : Vals (ns.map V.int) vs := vals_ints hi
  by_cases hk : ∃ o, K.lookup a = some o
  · obtain ⟨o, hk⟩ := hk
    have e := KX a o hk
    rw [ha] at e
    cases e
    have S : SqL K (fun _ => none) a (ns.map V.int) := by
      refine .inr ⟨_, vs.toArray, _, hk, rfl, rfl, rfl, ?_, by simpa using rv⟩
      rw [List.size_toArray, hi.length]
      exact hl
    have O : Only (fun _ => none) := fun _ => .inl rfl
    exact head_core KX hns hb hbb hlim hg ha hr F hbind O (hsp _ O S) (fun b u z => by cases (show (none : Option HO) = some u from z)) (fun b z => absurd rfl z) fun z => absurd rfl z
  · have hk : K.lookup a = none := by
      cases q : K.lookup a with
      | none => rfl
      | some o => exact absurd ⟨o, q⟩ hk
    let T : HO := .frz { cls := .type "list", data := .seq vs.toArray } (.lst (ns.map V.int))
    let H0 : Hp := fun b => if b = a then some T else none
    have O : Only H0 := fun b => by
      by_cases z : b = a
      · exact .inr ⟨_, _, if_pos z⟩
      · exact .inl (if_neg z)
    refine head_core KX hns hb hbb hlim hg ha hr F hbind O (hsp _ O (.inl (.inr ⟨_, if_pos rfl⟩))) (fun b u z => ?_) (fun b z => ?_) fun _ => hk
    · by_cases y : b = a
      · have z2 := (show H0 b = some T from if_pos y).symm.trans z
        cases z2
        subst y
        exact ⟨ha, by rw [List.length_map]; exact hl, vs, _, rv, ha⟩
      · have z2 := (show H0 b = none from if_neg y).symm.trans z
        cases z2
    · by_cases y : b = a
      · exact y
      · exact absurd (show H0 b = none from if_neg y) z
end
theorem walk_ofG {l : PySem.W.OpenLaw} {n k : Nat} {q : Program} {loose : List Str} {XP : (Str → Option Value) → Heap → Prop} {YP : World → Heap → Prop} {d : DefRec} {x : Str} (hn : l.most = some n) (hn2 : n ≤ sizeLine) (hdf : d.params.defaults = []) (hr : Room k callerA)
    (F : ∀ (w : World) (mg : Str → Option Value) (fa : Addr) (h : Heap), YP w h → h.Ns mainGlobals mg → mg d.name = some (.ref fa) → ∃ (K : PySem.W.Frag) (fd : FuncData) (sp : Sp), K.In h ∧ (∀ (s : Shared) (u : Value), BindsTo s fd ⟨[u], []⟩ [(x, u)]) ∧
        (∀ (H : Hp) (a : Addr) (ns : List Int), ns.length ≤ n → Only H → SqL K H a (ns.map V.int) → sp [.ref a] H (fun v _ => v = .bl true) fun _ _ _ => False) ∧ ∀ base : Heap, K.In base → base.Ns mainGlobals mg → FnG l.prog w K mg base CXn k fa fd [x] sp) :
    PySem.W.WalkO q loose XP YP l.row.toRowW d [] (fun f vs => PySem.call f vs) := by
  refine Att.attach_call hn hdf ?_
  intro w s0 s1 mg mb fa o pm cd doc a vs ns G Y ho hd hcd hmg hobj hints hlen hg
  obtain ⟨K, fd, sp, KX, hb, hsp, hF⟩ := F w mg fa _ Y G.T.g hmg
  exact law_callG KX G.T.g G.T.b G.T.builtins G.T.nolimit hg hobj hints (Nat.le_trans hlen hn2) hr hF hb fun H hO hS => hsp H a ns hlen hO hS
end PL
set_option Elab.async false
set_option linter.all false
set_option maxRecDepth 100000
set_option maxHeartbeats 4000000
/-! PL1: plain data D, how it lies in the abstract heap (Rp), slots and temporaries (Rep). -/
namespace PL
open PySem PySem.Spec PyProof.Rows L2

/-- plain data; lst: a tracked list that nobody changes any more; lsq: a list that may only be read (the script); obj: an instance of an own class -/
inductive D where
  | non | bl (b : Bool) | int (i : Int) | str (x : Str)
  | tup (ds : List D) | lst (ds : List D) | lsq (ds : List D) | obj (c : Str) (fs : List (Str × D))

/-- the content of an object that is still changed -/
inductive M where
  | lst (ds : List D) | ins (c : Str) (fs : List (Str × D))
structure Exn where
  cls : Str
  fs : List (Str × D)
/-- a slot's or a temporary's content: a value; an object of one's own; the borrowed first argument; a caught exception -/
inductive Sv where
  | val (d : D) | own (m : M) | bor (m : M) | exn (x : Exn)
abbrev PEnv := List (Option Sv)

structure Cfg where
  K : PySem.W.Frag
  mg : Str → Option Value
  S0 : Hp
  H0 : Hp
  R : Option Addr
  ex : Option (Addr × Value × Option Addr)

mutual
inductive Rp (K : PySem.W.Frag) (mg : Str → Option Value) (S : Hp) : D → V → Prop
  | non : Rp K mg S .non .non
  | bl (b : Bool) : Rp K mg S (.bl b) (.bl b)
  | int (i : Int) : Rp K mg S (.int i) (.int i)
  | str (x : Str) : Rp K mg S (.str x) (.str x)
  | tup {a : Addr} {ds : List D} {xs : List V} : SqT K S a xs → RpL K mg S ds xs → Rp K mg S (.tup ds) (.ref a)
  | lst {a : Addr} {ds : List D} {xs : List V} : S a = some (.lst xs) → RpL K mg S ds xs → Rp K mg S (.lst ds) (.ref a)
  | lsq {a : Addr} {ds : List D} {xs : List V} : SqL K S a xs → RpL K mg S ds xs → Rp K mg S (.lsq ds) (.ref a)
  | obj {a C dx : Addr} {c : Str} {fs : List (Str × D)} {gs : List (Str × V)} : mg c = some (.ref C) → S a = some (.ins C dx gs) → RpF K mg S fs gs → Rp K mg S (.obj c fs) (.ref a)
inductive RpL (K : PySem.W.Frag) (mg : Str → Option Value) (S : Hp) : List D → List V → Prop
  | nil : RpL K mg S [] []
  | cons {d : D} {v : V} {ds : List D} {vs : List V} : Rp K mg S d v → RpL K mg S ds vs → RpL K mg S (d :: ds) (v :: vs)
inductive RpF (K : PySem.W.Frag) (mg : Str → Option Value) (S : Hp) : List (Str × D) → List (Str × V) → Prop
  | nil : RpF K mg S [] []
  | cons {x : Str} {d : D} {v : V} {ds : List (Str × D)} {vs : List (Str × V)} : Rp K mg S d v → RpF K mg S ds vs → RpF K mg S ((x, d) :: ds) ((x, v) :: vs)
end

section
variable {K : PySem.W.Frag} {mg : Str → Option Value} {S S' H : Hp}
/-- S' knows all that S knows -/
def Le (S S' : Hp) : Prop := ∀ a o, S a = some o → S' a = some o
theorem Le.refl (S : Hp) : Le S S := fun _ _ h => h
theorem Le.trans {S1 S2 S3 : Hp} (a : Le S1 S2) (b : Le S2 S3) : Le S1 S3 := fun x o h => b x o (a x o h)
theorem Le.rd {a : Addr} {u : HO} (h : Le S S') (r : Rd S a u) : Rd S' a u := by
  rcases r with r | ⟨o, r⟩
  · exact .inl (h _ _ r)
  · exact .inr ⟨o, h _ _ r⟩
theorem Le.seq {a : Addr} {xs : List V} (h : Le S S') (r : SqL K S a xs) : SqL K S' a xs := r.elim (fun z => .inl (h.rd z)) .inr
theorem Le.tup {a : Addr} {xs : List V} (h : Le S S') (r : SqT K S a xs) : SqT K S' a xs := r.elim (fun z => .inl (h.rd z)) .inr
theorem Le.upd {p : Addr} {o : HO} (h : S p = none) : Le S (upd S p o) := fun a u e => by rw [upd_ne (ne_of_none e h)]; exact e
mutual
theorem Rp.mono (h : Le S S') : ∀ {d : D} {v : V}, Rp K mg S d v → Rp K mg S' d v
  | _, _, .non => .non
  | _, _, .bl b => .bl b
  | _, _, .int i => .int i
  | _, _, .str x => .str x
  | _, _, .tup s r => .tup (h.tup s) (RpL.mono h r)
  | _, _, .lst s r => .lst (h _ _ s) (RpL.mono h r)
  | _, _, .lsq s r => .lsq (h.seq s) (RpL.mono h r)
  | _, _, .obj m s r => .obj m (h _ _ s) (RpF.mono h r)
theorem RpL.mono (h : Le S S') : ∀ {ds : List D} {vs : List V}, RpL K mg S ds vs → RpL K mg S' ds vs
  | _, _, .nil => .nil
  | _, _, .cons r t => .cons (Rp.mono h r) (RpL.mono h t)
theorem RpF.mono (h : Le S S') : ∀ {ds : List (Str × D)} {vs : List (Str × V)}, RpF K mg S ds vs → RpF K mg S' ds vs
  | _, _, .nil => .nil
  | _, _, .cons r t => .cons (Rp.mono h r) (RpF.mono h t)
end
theorem RpL.length : ∀ {ds : List D} {vs : List V}, RpL K mg S ds vs → ds.length = vs.length
  | _, _, .nil => rfl
  | _, _, .cons _ t => by simp [RpL.length t]
theorem RpL.get : ∀ {ds : List D} {vs : List V} {i : Nat} {d : D}, RpL K mg S ds vs → ds[i]? = some d → ∃ v, vs[i]? = some v ∧ Rp K mg S d v
  | _, _, _, _, .nil, e => by simp at e
  | _, _, 0, _, .cons r _, e => by simp at e; subst e; exact ⟨_, rfl, r⟩
  | _, _, i + 1, _, .cons _ t, e => by
    obtain ⟨v, h1, h2⟩ := RpL.get (i := i) t (by simpa using e)
    exact ⟨v, by simpa using h1, h2⟩
theorem RpL.getV {ds : List D} {vs : List V} {i : Nat} {v : V} (r : RpL K mg S ds vs) (e : vs[i]? = some v) : ∃ d, ds[i]? = some d ∧ Rp K mg S d v := by
  cases q : ds[i]? with
  | none =>
    have h1 := List.getElem?_eq_none_iff.mp q
    have h2 := (List.getElem?_eq_some_iff.mp e).1
    rw [r.length] at h1
    omega
  | some d =>
    obtain ⟨v', h1, h2⟩ := r.get q
    rw [e] at h1; cases h1
    exact ⟨d, rfl, h2⟩
theorem RpL.append : ∀ {ds es : List D} {vs ws : List V}, RpL K mg S ds vs → RpL K mg S es ws → RpL K mg S (ds ++ es) (vs ++ ws)
  | _, _, _, _, .nil, s => s
  | _, _, _, _, .cons r t, s => .cons r (RpL.append t s)
theorem RpL.set {d : D} {v : V} (r : Rp K mg S d v) : ∀ {ds : List D} {vs : List V} (i : Nat), RpL K mg S ds vs → RpL K mg S (ds.set i d) (vs.set i v)
  | _, _, _, .nil => .nil
  | _, _, 0, .cons _ t => .cons r t
  | _, _, i + 1, .cons q t => .cons q (RpL.set r i t)
theorem RpL.take : ∀ {ds : List D} {vs : List V} (n : Nat), RpL K mg S ds vs → RpL K mg S (ds.take n) (vs.take n)
  | _, _, 0, _ => .nil
  | _, _, _ + 1, .nil => .nil
  | _, _, n + 1, .cons r t => .cons r (RpL.take n t)
theorem RpL.drop : ∀ {ds : List D} {vs : List V} (n : Nat), RpL K mg S ds vs → RpL K mg S (ds.drop n) (vs.drop n)
  | _, _, 0, r => r
  | _, _, _ + 1, .nil => .nil
  | _, _, n + 1, .cons _ t => RpL.drop n t
theorem RpL.eraseIdx : ∀ {ds : List D} {vs : List V} (n : Nat), RpL K mg S ds vs → RpL K mg S (ds.eraseIdx n) (vs.eraseIdx n)
  | _, _, _, .nil => .nil
  | _, _, 0, .cons _ t => t
  | _, _, n + 1, .cons r t => .cons r (RpL.eraseIdx n t)
theorem RpL.dropLast {ds : List D} {vs : List V} (r : RpL K mg S ds vs) : RpL K mg S ds.dropLast vs.dropLast := by
  rw [List.dropLast_eq_take, List.dropLast_eq_take, r.length]
  exact r.take _
theorem RpL.ints : ∀ {ns : List Int} {vs : List V}, RpL K mg S (ns.map D.int) vs → vs = ns.map V.int
  | [], _, .nil => rfl
  | _ :: _, _, .cons r t => by
    cases r
    rw [RpL.ints t]
    rfl
theorem RpL.of_ints : ∀ (ns : List Int), RpL K mg S (ns.map D.int) (ns.map V.int)
  | [] => .nil
  | n :: r => .cons (.int n) (RpL.of_ints r)
theorem RpL.strs : ∀ {ns : List Str} {vs : List V}, RpL K mg S (ns.map D.str) vs → vs = ns.map V.str
  | [], _, .nil => rfl
  | _ :: _, _, .cons r t => by
    cases r
    rw [RpL.strs t]
    rfl
theorem RpL.of_strs : ∀ (ns : List Str), RpL K mg S (ns.map D.str) (ns.map V.str)
  | [] => .nil
  | n :: r => .cons (.str n) (RpL.of_strs r)
theorem RpL.bls : ∀ {ns : List Bool} {vs : List V}, RpL K mg S (ns.map D.bl) vs → vs = ns.map V.bl
  | [], _, .nil => rfl
  | _ :: _, _, .cons r t => by
    cases r
    rw [RpL.bls t]
    rfl
theorem RpF.lookup {f : Str} {d : D} : ∀ {ds : List (Str × D)} {vs : List (Str × V)}, RpF K mg S ds vs → ds.lookup f = some d → ∃ v, vs.lookup f = some v ∧ Rp K mg S d v
  | _, _, .nil, e => by simp at e
  | _, _, .cons (x := x) r t, e => by
    rw [List.lookup_cons] at e ⊢
    cases q : (f == x) with
    | true =>
      rw [q] at e
      cases e
      exact ⟨_, rfl, r⟩
    | false =>
      rw [q] at e
      exact RpF.lookup t e
theorem RpF.lookup_none {f : Str} : ∀ {ds : List (Str × D)} {vs : List (Str × V)}, RpF K mg S ds vs → ds.lookup f = none → vs.lookup f = none
  | _, _, .nil, e => by simp
  | _, _, .cons (x := x) r t, e => by
    rw [List.lookup_cons] at e ⊢
    cases q : (f == x) with
    | true =>
      rw [q] at e
      cases e
    | false =>
      rw [q] at e
      exact RpF.lookup_none t e
theorem RpF.length : ∀ {ds : List (Str × D)} {vs : List (Str × V)}, RpF K mg S ds vs → ds.length = vs.length
  | _, _, .nil => rfl
  | _, _, .cons _ t => by simp [RpF.length t]
end

/-- what an object of one's own holds, at a -/
def MRep (C : Cfg) (S H : Hp) (a : Addr) : M → Prop
  | .lst ds => ∃ xs, H a = some (.lst xs) ∧ RpL C.K C.mg S ds xs
  | .ins c fs => ∃ cl dx gs, C.mg c = some (.ref cl) ∧ H a = some (.ins cl dx gs) ∧ RpF C.K C.mg S fs gs
def SvRep (C : Cfg) (S H : Hp) : Sv → V → Prop
  | .val d, v => Rp C.K C.mg S d v
  | .own m, v => ∃ a, v = .ref a ∧ C.H0 a = none ∧ S a = none ∧ MRep C S H a m
  | .bor m, v => ∃ a, v = .ref a ∧ C.R = some a ∧ S a = none ∧ MRep C S H a m
  | .exn x, v => ∃ a cl dd gs, C.ex = some (a, .ref cl, some dd) ∧ v = .ref a ∧ C.mg x.cls = some (.ref cl) ∧ S dd = some (.xd gs) ∧ RpF C.K C.mg S x.fs gs
/-- does the content hold the address for itself -/
def own1 (a : Addr) : Sv → V → Nat
  | .own _, .ref b => if b = a then 1 else 0
  | .bor _, .ref b => if b = a then 1 else 0
  | _, _ => 0
def ownT (a : Addr) : List Sv → List V → Nat
  | t :: ts, v :: vs => own1 a t v + ownT a ts vs
  | _, _ => 0
def ownO (a : Addr) : Option Sv → Option V → Nat
  | some t, some v => own1 a t v
  | _, _ => 0
def ownS (a : Addr) : PEnv → L2.St → Nat
  | t :: ts, v :: vs => ownO a t v + ownS a ts vs
  | _, _ => 0

structure RepAt (C : Cfg) (S : Hp) (ts : List Sv) (vs : List V) (e : PEnv) (σ : L2.St) (H : Hp) : Prop where
  sub : Le S H
  ext : Le C.S0 S
  new : ∀ a o, S a = some o → (∃ o', C.S0 a = some o') ∨ C.H0 a = none
  fr : ∀ a o, C.H0 a = some o → C.R ≠ some a → H a = some o
  rf : ∀ a, C.R = some a → ∃ o, H a = some o
  tmp : Paired (SvRep C S H) ts vs
  len : e.length = σ.length
  slot : ∀ (i : Nat) sv, e[i]? = some (some sv) → ∃ v, σ[i]? = some (some v) ∧ SvRep C S H sv v
  dist : ∀ a, ownT a ts vs + ownS a e σ ≤ 1
def Rep (C : Cfg) (ts : List Sv) (vs : List V) (e : PEnv) (σ : L2.St) (H : Hp) : Prop := ∃ S, RepAt C S ts vs e σ H
/-- the facts of a function's entry -/
structure Cfg.Ok (C : Cfg) : Prop where
  ref : ∀ a, C.R = some a → C.S0 a = none ∧ ∃ o, C.H0 a = some o
  sub : Le C.S0 C.H0

section
variable {C : Cfg} {S S' H H' : Hp} {ts : List Sv} {vs : List V} {e : PEnv} {σ : L2.St} {sv : Sv} {v : V} {a p : Addr} {o : HO} {d : D} {m : M} {i : Nat}
theorem MRep.mono (h : MRep C S H a m) (hs : Le S S') (e : H' a = H a) : MRep C S' H' a m := by
  cases m with
  | lst ds => obtain ⟨xs, h1, h2⟩ := h; exact ⟨xs, e.trans h1, h2.mono hs⟩
  | ins c fs => obtain ⟨cl, dx, gs, h0, h1, h2⟩ := h; exact ⟨cl, dx, gs, h0, e.trans h1, h2.mono hs⟩
theorem MRep.there (h : MRep C S H a m) : ∃ o, H a = some o := by
  cases m with
  | lst ds => obtain ⟨xs, h1, h2⟩ := h; exact ⟨_, h1⟩
  | ins c fs => obtain ⟨cl, dx, gs, h0, h1, h2⟩ := h; exact ⟨_, h1⟩
theorem SvRep.mono (h : SvRep C S H sv v) (hs : Le S S') (hk : ∀ a, own1 a sv v = 1 → H' a = H a ∧ S' a = none) : SvRep C S' H' sv v := by
  cases sv with
  | val d => exact Rp.mono hs h
  | own m =>
    obtain ⟨a, rfl, h0, h1, h2⟩ := h
    obtain ⟨k1, k2⟩ := hk a (by simp [own1])
    exact ⟨a, rfl, h0, k2, h2.mono hs k1⟩
  | bor m =>
    obtain ⟨a, rfl, h0, h1, h2⟩ := h
    obtain ⟨k1, k2⟩ := hk a (by simp [own1])
    exact ⟨a, rfl, h0, k2, h2.mono hs k1⟩
  | exn x =>
    obtain ⟨a, cl, dd, gs, h0, h1, h2, h3, h4⟩ := h
    exact ⟨a, cl, dd, gs, h0, h1, h2, hs _ _ h3, h4.mono hs⟩
theorem SvRep.there (h : SvRep C S H sv v) (q : own1 a sv v = 1) : (∃ o, H a = some o) ∧ S a = none ∧ (C.H0 a = none ∨ C.R = some a) := by
  cases sv with
  | val d => cases v <;> simp [own1] at q
  | own m =>
    obtain ⟨b, rfl, h0, h1, h2⟩ := h
    have e : b = a := by
      by_cases z : b = a
      · exact z
      · simp [own1, z] at q
    subst e
    exact ⟨h2.there, h1, .inl h0⟩
  | bor m =>
    obtain ⟨b, rfl, h0, h1, h2⟩ := h
    have e : b = a := by
      by_cases z : b = a
      · exact z
      · simp [own1, z] at q
    subst e
    exact ⟨h2.there, h1, .inr h0⟩
  | exn x => cases v <;> simp [own1] at q
theorem own1_le (a : Addr) (sv : Sv) (v : V) : own1 a sv v ≤ 1 := by
  cases sv <;> cases v <;> simp [own1] <;> split <;> omega
theorem ownT_mem : ∀ {ts : List Sv} {vs : List V}, Paired (SvRep C S H) ts vs → ownT a ts vs ≥ 1 → ∃ t v, SvRep C S H t v ∧ own1 a t v = 1
  | _, _, .nil, q => by simp [ownT] at q
  | _, _, .cons (a := t) (b := v) r h, q => by
    have := own1_le a t v
    by_cases z : own1 a t v = 1
    · exact ⟨_, _, r, z⟩
    · refine ownT_mem h ?_
      have q' : own1 a t v + ownT a _ _ ≥ 1 := q
      omega
theorem ownS_mem : ∀ {e : PEnv} {σ : L2.St}, ownS a e σ ≥ 1 → ∃ (i : Nat) (sv : Sv) (v : V), e[i]? = some (some sv) ∧ σ[i]? = some (some v) ∧ own1 a sv v = 1
  | [], _, q => by simp [ownS] at q
  | _ :: _, [], q => by simp [ownS] at q
  | x :: e, y :: σ, q => by
    have q' : ownO a x y + ownS a e σ ≥ 1 := q
    by_cases z : ownS a e σ ≥ 1
    · obtain ⟨i, sv, v, h1, h2, h3⟩ := ownS_mem z
      exact ⟨i + 1, sv, v, by simpa using h1, by simpa using h2, h3⟩
    · have z' : ownO a x y ≥ 1 := by omega
      cases x with
      | none => simp [ownO] at z'
      | some sv =>
        cases y with
        | none => simp [ownO] at z'
        | some v =>
          have z1 : own1 a sv v ≥ 1 := z'
          have := own1_le a sv v
          exact ⟨0, sv, v, rfl, rfl, by omega⟩
theorem ownS_ge : ∀ {e : PEnv} {σ : L2.St} {i : Nat} {sv : Sv} {v : V}, e[i]? = some (some sv) → σ[i]? = some (some v) → own1 a sv v ≤ ownS a e σ
  | [], _, _, _, _, h, _ => by simp at h
  | _ :: _, [], _, _, _, _, h => by simp at h
  | x :: e, y :: σ, 0, sv, v, h1, h2 => by
    simp at h1 h2; subst h1; subst h2
    show own1 a sv v ≤ ownO a (some sv) (some v) + ownS a e σ
    show own1 a sv v ≤ own1 a sv v + ownS a e σ
    omega
  | x :: e, y :: σ, i + 1, sv, v, h1, h2 => by
    have := ownS_ge (i := i) (show e[i]? = some (some sv) by simpa using h1) (show σ[i]? = some (some v) by simpa using h2)
    show own1 a sv v ≤ ownO a x y + ownS a e σ
    omega
theorem ownS_set (a : Addr) (sv : Option Sv) (v : Option V) : ∀ (e : PEnv) (σ : L2.St) (i : Nat), ownS a (e.set i sv) (σ.set i v) ≤ ownS a e σ + ownO a sv v
  | [], _, _ => by simp [ownS]
  | _ :: _, [], i => by cases i <;> simp [ownS]
  | x :: e, y :: σ, 0 => by
    show ownO a sv v + ownS a e σ ≤ ownO a x y + ownS a e σ + ownO a sv v
    omega
  | x :: e, y :: σ, i + 1 => by
    have := ownS_set a sv v e σ i
    show ownO a x y + ownS a (e.set i sv) (σ.set i v) ≤ ownO a x y + ownS a e σ + ownO a sv v
    omega
/-- the slots' side alone: the content at i leaves -/
theorem ownS_rm (a : Addr) (sv : Option Sv) : ∀ (e : PEnv) (σ : L2.St) (i : Nat) (s : Sv) (v : V), e[i]? = some (some s) → σ[i]? = some (some v) → ownS a (e.set i sv) σ + own1 a s v = ownS a e σ + ownO a sv (some v)
  | [], _, _, _, _, h, _ => by simp at h
  | _ :: _, [], _, _, _, _, h => by simp at h
  | x :: e, y :: σ, 0, s, v, h1, h2 => by
    simp at h1 h2; subst h1; subst h2
    show ownO a sv (some v) + ownS a e σ + own1 a s v = own1 a s v + ownS a e σ + ownO a sv (some v)
    omega
  | x :: e, y :: σ, i + 1, s, v, h1, h2 => by
    have := ownS_rm a sv e σ i s v (by simpa using h1) (by simpa using h2)
    show ownO a x y + ownS a (e.set i sv) σ + own1 a s v = ownO a x y + ownS a e σ + ownO a sv (some v)
    omega
theorem Paired.mapI {α β : Type} {F G : α → β → Prop} : ∀ {l : List α} {r : List β}, Paired F l r → (∀ x y, x ∈ l → F x y → G x y) → Paired G l r
  | _, _, .nil, _ => .nil
  | _, _, .cons h t, f => .cons (f _ _ List.mem_cons_self h) (Paired.mapI t fun x y m => f x y (List.mem_cons_of_mem _ m))
theorem tmp_mono : ∀ {ts : List Sv} {vs : List V}, Paired (SvRep C S H) ts vs → Le S S' → (∀ a, 1 ≤ ownT a ts vs → H' a = H a ∧ S' a = none) → Paired (SvRep C S' H') ts vs
  | _, _, .nil, _, _ => .nil
  | t :: ts, v :: vs, .cons r h, hs, hk => .cons (r.mono hs fun a q => hk a (by show 1 ≤ own1 a t v + ownT a ts vs; omega)) (tmp_mono h hs fun a q => hk a (by show 1 ≤ own1 a t v + ownT a ts vs; omega))
/-- all stays where it is; what the holders hold is untouched -/
theorem RepAt.mono (h : RepAt C S ts vs e σ H) (hs : Le S S') (sub : Le S' H') (new : ∀ a o, S' a = some o → (∃ o', C.S0 a = some o') ∨ C.H0 a = none) (fr : ∀ a o, C.H0 a = some o → C.R ≠ some a → H' a = some o)
    (rf : ∀ a, C.R = some a → ∃ o, H' a = some o) (hk : ∀ a, ownT a ts vs + ownS a e σ = 1 → H' a = H a ∧ S' a = none) : RepAt C S' ts vs e σ H' where
  sub := sub
  ext := h.ext.trans hs
  new := new
  fr := fr
  rf := rf
  tmp := tmp_mono h.tmp hs fun a q => hk a (by have := h.dist a; omega)
  len := h.len
  slot := fun i sv q => by
    obtain ⟨v, h1, h2⟩ := h.slot i sv q
    refine ⟨v, h1, h2.mono hs fun a z => hk a ?_⟩
    have := h.dist a
    have := ownS_ge (a := a) q h1
    omega
  dist := h.dist
theorem RepAt.held (h : RepAt C S ts vs e σ H) (q : ownT a ts vs + ownS a e σ = 1) : (∃ o, H a = some o) ∧ S a = none ∧ (C.H0 a = none ∨ C.R = some a) := by
  by_cases z : ownT a ts vs ≥ 1
  · obtain ⟨t, v, r, x⟩ := ownT_mem h.tmp z
    exact r.there x
  · obtain ⟨i, sv, v, h1, h2, h3⟩ := ownS_mem (a := a) (e := e) (σ := σ) (by omega)
    obtain ⟨v', h4, h5⟩ := h.slot i sv h1
    rw [h2] at h4; cases h4
    exact h5.there h3
theorem RepAt.freeS (h : RepAt C S ts vs e σ H) (hp : H p = none) : S p = none := by
  cases q : S p with
  | none => rfl
  | some u => rw [h.sub _ _ q] at hp; cases hp
theorem RepAt.free0 (h : RepAt C S ts vs e σ H) (hp : H p = none) : C.H0 p = none := by
  cases w : C.H0 p with
  | none => rfl
  | some x =>
    by_cases r : C.R = some p
    · obtain ⟨y, hy⟩ := h.rf p r
      rw [hp] at hy; cases hy
    · rw [h.fr _ _ w r] at hp; cases hp
/-- a new object that nobody will change -/
theorem RepAt.alloc (h : RepAt C S ts vs e σ H) (hp : H p = none) : RepAt C (upd S p o) ts vs e σ (upd H p o) := by
  have sp := h.freeS hp
  refine h.mono (Le.upd sp) (fun a u q => ?_) (fun a u q => ?_) (fun a u q r => ?_) (fun a r => ?_) (fun a q => ?_)
  · by_cases z : a = p
    · subst z; rw [upd_same] at q ⊢; exact q
    · rw [upd_ne z] at q ⊢; exact h.sub _ _ q
  · by_cases z : a = p
    · subst z; exact .inr (h.free0 hp)
    · rw [upd_ne z] at q; exact h.new _ _ q
  · rw [upd_ne (ne_of_none (h.fr _ _ q r) hp)]; exact h.fr _ _ q r
  · obtain ⟨x, hx⟩ := h.rf a r
    exact ⟨x, by rw [upd_ne (ne_of_none hx hp)]; exact hx⟩
  · obtain ⟨⟨x, hx⟩, hs, _⟩ := h.held q
    have z : a ≠ p := ne_of_none hx hp
    exact ⟨upd_ne z, by rw [upd_ne z]; exact hs⟩
/-- a new object, nobody's so far -/
theorem RepAt.alloc1 (h : RepAt C S ts vs e σ H) (hp : H p = none) : RepAt C S ts vs e σ (upd H p o) := by
  refine h.mono (Le.refl S) (fun a u q => ?_) h.new (fun a u q r => ?_) (fun a r => ?_) (fun a q => ?_)
  · rw [upd_ne (ne_of_none (h.sub _ _ q) hp)]; exact h.sub _ _ q
  · rw [upd_ne (ne_of_none (h.fr _ _ q r) hp)]; exact h.fr _ _ q r
  · obtain ⟨x, hx⟩ := h.rf a r
    exact ⟨x, by rw [upd_ne (ne_of_none hx hp)]; exact hx⟩
  · obtain ⟨⟨x, hx⟩, hs, _⟩ := h.held q
    exact ⟨upd_ne (ne_of_none hx hp), hs⟩
theorem RepAt.push (h : RepAt C S ts vs e σ H) (r : SvRep C S H sv v) (hd : ∀ a, own1 a sv v + ownT a ts vs + ownS a e σ ≤ 1) : RepAt C S (sv :: ts) (v :: vs) e σ H :=
  { h with tmp := .cons r h.tmp, dist := fun a => by have := hd a; show own1 a sv v + ownT a ts vs + ownS a e σ ≤ 1; exact this }
theorem own1_val (a : Addr) (d : D) (v : V) : own1 a (.val d) v = 0 := by cases v <;> rfl
theorem own1_exn (a : Addr) (x : Exn) (v : V) : own1 a (.exn x) v = 0 := by cases v <;> rfl
theorem RepAt.pushV (h : RepAt C S ts vs e σ H) (r : Rp C.K C.mg S d v) : RepAt C S (.val d :: ts) (v :: vs) e σ H := h.push r fun a => by rw [own1_val, Nat.zero_add]; exact h.dist a
theorem RepAt.pop {t : Sv} {v : V} (h : RepAt C S (t :: ts) (v :: vs) e σ H) : RepAt C S ts vs e σ H :=
  { h with tmp := (by cases h.tmp with | cons _ r => exact r), dist := fun a => by have := h.dist a; have : own1 a t v + ownT a ts vs + ownS a e σ ≤ 1 := this; omega }
theorem RepAt.top {t : Sv} {v : V} (h : RepAt C S (t :: ts) (v :: vs) e σ H) : SvRep C S H t v := by cases h.tmp with | cons r _ => exact r
theorem RepAt.topV {v : V} (h : RepAt C S (.val d :: ts) (v :: vs) e σ H) : Rp C.K C.mg S d v := h.top
/-- a new list of one's own -/
theorem RepAt.pushL {xs : List V} {ds : List D} (h : RepAt C S ts vs e σ H) (hp : H p = none) (r : RpL C.K C.mg S ds xs) : RepAt C S (.own (.lst ds) :: ts) (.ref p :: vs) e σ (upd H p (.lst xs)) := by
  refine (h.alloc1 hp).push ⟨p, rfl, h.free0 hp, h.freeS hp, xs, upd_same, r⟩ fun a => ?_
  show (if p = a then 1 else 0) + ownT a ts vs + ownS a e σ ≤ 1
  have := h.dist a
  by_cases z : p = a
  · subst z
    rw [if_pos rfl]
    by_cases w : ownT p ts vs + ownS p e σ = 1
    · obtain ⟨⟨x, hx⟩, _⟩ := h.held w
      rw [hp] at hx; cases hx
    · omega
  · rw [if_neg z]; omega
/-- a new tuple -/
theorem RepAt.pushT {xs : List V} {ds : List D} (h : RepAt C S ts vs e σ H) (hp : H p = none) (r : RpL C.K C.mg S ds xs) : RepAt C (upd S p (.tup xs)) (.val (.tup ds) :: ts) (.ref p :: vs) e σ (upd H p (.tup xs)) :=
  (h.alloc hp).pushV (.tup (SqT.of upd_same) (r.mono (Le.upd (h.freeS hp))))
/-- what content becomes when nobody changes it any more -/
def M.fz : M → D
  | .lst ds => .lst ds
  | .ins c fs => .obj c fs
/-- adding to S what was one's own at a -/
theorem freeze_le (hs : S a = none) : Le S (fun b => if b = a then H a else S b) := fun b u q => by
  have z : b ≠ a := fun z => by subst z; rw [hs] at q; cases q
  show (if b = a then H a else S b) = some u
  rw [if_neg z]; exact q
theorem MRep.fz (h : MRep C S H a m) (hs : S a = none) : Rp C.K C.mg (fun b => if b = a then H a else S b) m.fz (.ref a) := by
  have l : Le S (fun b => if b = a then H a else S b) := freeze_le hs
  cases m with
  | lst ds => obtain ⟨xs, h1, h2⟩ := h; exact .lst (by rw [if_pos rfl]; exact h1) (h2.mono l)
  | ins c fs => obtain ⟨cl, dx, gs, h0, h1, h2⟩ := h; exact .obj h0 (by rw [if_pos rfl]; exact h1) (h2.mono l)
theorem RepAt.frz_gen (h : RepAt C S ts vs e σ H) (hs : S a = none) (h0 : C.H0 a = none) (hk : ∀ b, ownT b ts vs + ownS b e σ = 1 → b ≠ a) : RepAt C (fun b => if b = a then H a else S b) ts vs e σ H := by
  refine h.mono (freeze_le hs) (fun b u q => ?_) (fun b u q => ?_) h.fr h.rf (fun b q => ⟨rfl, ?_⟩)
  · have q : (if b = a then H a else S b) = some u := q
    by_cases z : b = a
    · subst z; rw [if_pos rfl] at q; exact q
    · rw [if_neg z] at q; exact h.sub _ _ q
  · have q : (if b = a then H a else S b) = some u := q
    by_cases z : b = a
    · subst z; exact .inr h0
    · rw [if_neg z] at q; exact h.new _ _ q
  · show (if b = a then H a else S b) = none
    rw [if_neg (hk b q)]
    exact (h.held q).2.1
/-- the temporary that is one's own is given up -/
theorem RepAt.freezeT {v : V} (h : RepAt C S (.own m :: ts) (v :: vs) e σ H) : ∃ S', RepAt C S' (.val m.fz :: ts) (v :: vs) e σ H := by
  obtain ⟨a, rfl, h0, hs, r⟩ := h.top
  have hk : ∀ b, ownT b ts vs + ownS b e σ = 1 → b ≠ a := fun b q z => by
    subst z
    have d := h.dist b
    have d : own1 b (.own m) (.ref b) + ownT b ts vs + ownS b e σ ≤ 1 := d
    simp [own1] at d
    omega
  exact ⟨_, (h.pop.frz_gen hs h0 hk).pushV (r.fz hs)⟩
/-- the value that a content is, when it is used as a value -/
def Sv.fz : Sv → Option D
  | .val d => some d
  | .own m => some m.fz
  | _ => none
theorem Rep.fz {v : V} (h : Rep C (sv :: ts) (v :: vs) e σ H) (q : sv.fz = some d) : Rep C (.val d :: ts) (v :: vs) e σ H := by
  cases sv with
  | val d' => cases q; exact h
  | own m => cases q; obtain ⟨S, h⟩ := h; exact h.freezeT
  | bor m => cases q
  | exn x => cases q
/-- a slot's value is read -/
theorem RepAt.slotV (h : RepAt C S ts vs e σ H) (q : e[i]? = some (some (.val d))) : ∃ v, σ[i]? = some (some v) ∧ RepAt C S (.val d :: ts) (v :: vs) e σ H := by
  obtain ⟨v, h1, h2⟩ := h.slot i _ q
  exact ⟨v, h1, h.pushV h2⟩
theorem RepAt.set_slot {sv' : Sv} {v : V} (h : RepAt C S ts vs e σ H) (q : e[i]? = some (some sv)) (qv : σ[i]? = some (some v)) (r : SvRep C S H sv' v) (hd : ∀ a, own1 a sv' v ≤ own1 a sv v) : RepAt C S ts vs (e.set i (some sv')) σ H where
  sub := h.sub
  ext := h.ext
  new := h.new
  fr := h.fr
  rf := h.rf
  tmp := h.tmp
  len := by rw [List.length_set]; exact h.len
  slot := fun j s z => by
    rw [List.getElem?_set] at z
    by_cases w : i = j
    · subst w
      rw [if_pos rfl] at z
      split at z
      · cases z; exact ⟨v, qv, r⟩
      · cases z
    · rw [if_neg w] at z; exact h.slot j s z
  dist := fun a => by
    have h1 := ownS_rm a (some sv') e σ i sv v q qv
    have h2 := hd a
    have h3 := h.dist a
    have h1 : ownS a (e.set i (some sv')) σ + own1 a sv v = ownS a e σ + own1 a sv' v := h1
    omega
/-- a slot that holds an object of its own is read as a value: from now on nobody changes it -/
theorem RepAt.slotF (h : RepAt C S ts vs e σ H) (q : e[i]? = some (some (.own m))) : ∃ S' v, σ[i]? = some (some v) ∧ RepAt C S' (.val m.fz :: ts) (v :: vs) (e.set i (some (.val m.fz))) σ H := by
  obtain ⟨v, h1, a, rfl, h0, hs, r⟩ := h.slot i _ q
  have hk : ∀ b, ownT b ts vs + ownS b (e.set i none) σ = 1 → b ≠ a := fun b y z => by
    subst z
    have d := h.dist b
    have w := ownS_rm b none e σ i _ _ q h1
    have w : ownS b (e.set i none) σ + own1 b (.own m) (.ref b) = ownS b e σ + 0 := w
    simp [own1] at w
    omega
  have h' : RepAt C S ts vs (e.set i none) σ H :=
    { sub := h.sub, ext := h.ext, new := h.new, fr := h.fr, rf := h.rf, tmp := h.tmp, len := by rw [List.length_set]; exact h.len
      slot := fun j s z => by
        rw [List.getElem?_set] at z
        by_cases w : i = j
        · subst w
          rw [if_pos rfl] at z
          split at z <;> cases z
        · rw [if_neg w] at z; exact h.slot j s z
      dist := fun b => by
        have d := h.dist b
        have w := ownS_rm b none e σ i _ _ q h1
        have w : ownS b (e.set i none) σ + own1 b (.own m) (.ref a) = ownS b e σ + 0 := w
        omega }
  have h2 := h'.frz_gen hs h0 hk
  refine ⟨fun b => if b = a then H a else S b, _, h1, ?_⟩
  refine RepAt.pushV ?_ (r.fz hs)
  refine { sub := h2.sub, ext := h2.ext, new := h2.new, fr := h2.fr, rf := h2.rf, tmp := h2.tmp, len := by rw [List.length_set]; exact h.len, slot := fun j s z => ?_, dist := fun b => ?_ }
  · rw [List.getElem?_set] at z
    by_cases w : i = j
    · subst w
      rw [if_pos rfl] at z
      split at z
      · cases z; exact ⟨_, h1, r.fz hs⟩
      · cases z
    · rw [if_neg w] at z
      exact h2.slot j s (by rw [List.getElem?_set, if_neg w]; exact z)
  · have w := ownS_rm b (some (.val m.fz)) e σ i _ _ q h1
    have w : ownS b (e.set i (some (.val m.fz))) σ + own1 b (.own m) (.ref a) = ownS b e σ + own1 b (.val m.fz) (.ref a) := w
    rw [own1_val] at w
    have d := h.dist b
    omega
/-- a slot's content of its own is moved out -/
theorem RepAt.slotM (h : RepAt C S ts vs e σ H) (q : e[i]? = some (some (.own m))) : ∃ v, σ[i]? = some (some v) ∧ RepAt C S (.own m :: ts) (v :: vs) (e.set i none) σ H := by
  obtain ⟨v, h1, h2⟩ := h.slot i _ q
  refine ⟨v, h1, ?_⟩
  refine { sub := h.sub, ext := h.ext, new := h.new, fr := h.fr, rf := h.rf, tmp := .cons h2 h.tmp, len := by rw [List.length_set]; exact h.len, slot := fun j s z => ?_, dist := fun b => ?_ }
  · rw [List.getElem?_set] at z
    by_cases w : i = j
    · subst w
      rw [if_pos rfl] at z
      split at z <;> cases z
    · rw [if_neg w] at z; exact h.slot j s z
  · have d := h.dist b
    have w := ownS_rm b none e σ i _ _ q h1
    have w : ownS b (e.set i none) σ + own1 b (.own m) v = ownS b e σ + 0 := w
    show own1 b (.own m) v + ownT b ts vs + ownS b (e.set i none) σ ≤ 1
    omega
/-- the temporary is stored in a slot -/
theorem RepAt.store {v : V} (h : RepAt C S (sv :: ts) (v :: vs) e σ H) : RepAt C S ts vs (e.set i (some sv)) (σ.set i (some v)) H where
  sub := h.sub
  ext := h.ext
  new := h.new
  fr := h.fr
  rf := h.rf
  tmp := h.pop.tmp
  len := by rw [List.length_set, List.length_set]; exact h.len
  slot := fun j s z => by
    rw [List.getElem?_set] at z ⊢
    by_cases w : i = j
    · subst w
      rw [if_pos rfl] at z ⊢
      split at z
      · rename_i l
        cases z
        exact ⟨v, by rw [if_pos (by rw [← h.len]; exact l)], h.top⟩
      · cases z
    · rw [if_neg w] at z ⊢; exact h.slot j s z
  dist := fun a => by
    have h1 := ownS_set a (some sv) (some v) e σ i
    have h2 := h.dist a
    have h1 : ownS a (e.set i (some sv)) (σ.set i (some v)) ≤ ownS a e σ + own1 a sv v := h1
    have h2 : own1 a sv v + ownT a ts vs + ownS a e σ ≤ 1 := h2
    omega
/-- nothing is known of a slot any more -/
theorem RepAt.forget (h : RepAt C S ts vs e σ H) (x : Option V) : RepAt C S ts vs (e.set i none) (σ.set i x) H where
  sub := h.sub
  ext := h.ext
  new := h.new
  fr := h.fr
  rf := h.rf
  tmp := h.tmp
  len := by rw [List.length_set, List.length_set]; exact h.len
  slot := fun j s z => by
    rw [List.getElem?_set] at z ⊢
    by_cases w : i = j
    · subst w
      rw [if_pos rfl] at z
      split at z <;> cases z
    · rw [if_neg w] at z ⊢; exact h.slot j s z
  dist := fun a => by
    have h1 := ownS_set a none x e σ i
    have h2 := h.dist a
    have h1 : ownS a (e.set i none) (σ.set i x) ≤ ownS a e σ + 0 := h1
    omega
/-- the object that a slot holds for itself is changed -/
def isHeld : Sv → M → Prop
  | .own m, m' => m = m'
  | .bor m, m' => m = m'
  | _, _ => False
def reHold : Sv → M → Sv
  | .own _, m => .own m
  | .bor _, m => .bor m
  | s, _ => s
theorem RepAt.change (h : RepAt C S ts vs e σ H) (q : e[i]? = some (some sv)) (hm : isHeld sv m) : ∃ a, σ[i]? = some (some (.ref a)) ∧ MRep C S H a m ∧
    ∀ (o : HO) (m' : M), MRep C S (upd H a o) a m' → RepAt C S ts vs (e.set i (some (reHold sv m'))) σ (upd H a o) := by
  obtain ⟨v, h1, h2⟩ := h.slot i sv q
  obtain ⟨a, rfl, hs, hr, hw, ho⟩ : ∃ a, v = .ref a ∧ S a = none ∧ MRep C S H a m ∧ (C.H0 a = none ∨ C.R = some a) ∧ own1 a sv v = 1 := by
    cases sv with
    | val d => exact hm.elim
    | exn x => exact hm.elim
    | own m₀ => have e : m₀ = m := hm; subst e; obtain ⟨a, rfl, h0, hs, hr⟩ := h2; exact ⟨a, rfl, hs, hr, .inl h0, by simp [own1]⟩
    | bor m₀ => have e : m₀ = m := hm; subst e; obtain ⟨a, rfl, h0, hs, hr⟩ := h2; exact ⟨a, rfl, hs, hr, .inr h0, by simp [own1]⟩
  refine ⟨a, h1, hr, fun o m' hn => ?_⟩
  have da := h.dist a
  have ge := ownS_ge (a := a) q h1
  have ne_t : ∀ b, 1 ≤ ownT b ts vs → b ≠ a := fun b z y => by subst y; omega
  have keepS : ∀ {b u}, S b = some u → b ≠ a := fun {b u} z y => by subst y; rw [hs] at z; cases z
  refine { sub := fun b u z => by rw [upd_ne (keepS z)]; exact h.sub _ _ z, ext := h.ext, new := h.new, fr := fun b u z r => ?_, rf := fun b r => ?_, tmp := tmp_mono h.tmp (Le.refl S) fun b z => ?_, len := by rw [List.length_set]; exact h.len, slot := fun j s z => ?_, dist := fun b => ?_ }
  · have y : b ≠ a := fun y => by
      subst y
      rcases hw with w | w
      · rw [w] at z; cases z
      · exact r w
    rw [upd_ne y]; exact h.fr _ _ z r
  · by_cases y : b = a
    · subst y; exact ⟨o, upd_same⟩
    · rw [upd_ne y]; exact h.rf b r
  · refine ⟨upd_ne (ne_t b z), ?_⟩
    have := h.dist b
    exact (h.held (a := b) (by omega)).2.1
  · rw [List.getElem?_set] at z
    by_cases w : i = j
    · subst w
      rw [if_pos rfl] at z
      split at z
      · cases z
        refine ⟨_, h1, ?_⟩
        cases sv with
        | val d => exact hm.elim
        | exn x => exact hm.elim
        | own m₀ => obtain ⟨a', e', h0, hs', _⟩ := h2; cases e'; exact ⟨a, rfl, h0, hs, hn⟩
        | bor m₀ => obtain ⟨a', e', h0, hs', _⟩ := h2; cases e'; exact ⟨a, rfl, h0, hs, hn⟩
      · cases z
    · rw [if_neg w] at z
      obtain ⟨v', h3, h4⟩ := h.slot j s z
      refine ⟨v', h3, h4.mono (Le.refl S) fun b y => ?_⟩
      have hb := ownS_ge (a := b) z h3
      have db := h.dist b
      refine ⟨upd_ne fun y2 => ?_, (h.held (a := b) (by omega)).2.1⟩
      subst y2
      -- two slots hold the same object
      have w1 := ownS_rm b none e σ i sv _ q h1
      have w1 : ownS b (e.set i none) σ + own1 b sv (.ref b) = ownS b e σ + 0 := w1
      have w2 := ownS_ge (a := b) (e := e.set i none) (σ := σ) (i := j) (sv := s) (v := v') (by rw [List.getElem?_set, if_neg w]; exact z) h3
      omega
  · have w1 := ownS_rm b (some (reHold sv m')) e σ i sv _ q h1
    have w1 : ownS b (e.set i (some (reHold sv m'))) σ + own1 b sv (.ref a) = ownS b e σ + own1 b (reHold sv m') (.ref a) := w1
    have e1 : own1 b (reHold sv m') (.ref a) = own1 b sv (.ref a) := by cases sv <;> rfl
    have := h.dist b
    omega
end
end PL
set_option Elab.async false
set_option linter.all false
set_option maxRecDepth 100000
set_option maxHeartbeats 4000000
/-! PL2: what operators, comparisons, built-ins, subscripts do to plain data; each is sound over the abstract heap. -/
namespace PL
open PySem PySem.Spec PyProof.Rows L2

/-! ### data as the kit's data -/
mutual
def D.toPy : D → Option PyData
  | .non => some .none
  | .bl b => some (.bool b)
  | .int i => some (.int i)
  | .str x => some (.str x)
  | .tup ds => (D.toPyL ds).map .tuple
  | .lst ds => (D.toPyL ds).map .list
  | .lsq ds => (D.toPyL ds).map .list
  | .obj _ _ => none
def D.toPyL : List D → Option (List PyData)
  | [] => some []
  | d :: ds => match D.toPy d, D.toPyL ds with
    | some x, some xs => some (x :: xs)
    | _, _ => none
end
section
variable {K : PySem.W.Frag} {mg : Str → Option Value} {S S' H : Hp}
mutual
theorem Rp.dp : ∀ {d : D} {v : V} {p : PyData}, Rp K mg S d v → d.toPy = some p → Dp K S v p
  | _, _, _, .non, e => by cases e; exact .non
  | _, _, _, .bl b, e => by cases e; exact .bl b
  | _, _, _, .int i, e => by cases e; exact .int i
  | _, _, _, .str x, e => by cases e; exact .str x
  | _, _, p, .tup (ds := ds) s r, e => by
    cases q : D.toPyL ds with
    | none => simp [D.toPy, q] at e
    | some xs => simp [D.toPy, q] at e; subst e; exact .tup s (RpL.dp r q)
  | _, _, p, .lst (ds := ds) s r, e => by
    cases q : D.toPyL ds with
    | none => simp [D.toPy, q] at e
    | some xs => simp [D.toPy, q] at e; subst e; exact .lst (SqL.of s) (RpL.dp r q)
  | _, _, p, .lsq (ds := ds) s r, e => by
    cases q : D.toPyL ds with
    | none => simp [D.toPy, q] at e
    | some xs => simp [D.toPy, q] at e; subst e; exact .lst s (RpL.dp r q)
  | _, _, _, .obj _ _ _, e => by simp [D.toPy] at e
theorem RpL.dp : ∀ {ds : List D} {vs : List V} {ps : List PyData}, RpL K mg S ds vs → D.toPyL ds = some ps → DpAll K S vs ps
  | _, _, _, .nil, e => by cases e; exact .nil
  | _, _, _, .cons (d := d) (ds := ds) r t, e => by
    cases q1 : D.toPy d with
    | none => simp [D.toPyL, q1] at e
    | some x =>
      cases q2 : D.toPyL ds with
      | none => simp [D.toPyL, q1, q2] at e
      | some xs => simp [D.toPyL, q1, q2] at e; subst e; exact .cons (Rp.dp r q1) (RpL.dp t q2)
end
mutual
theorem Dp.up (h : Le S S') : ∀ {v : V} {p : PyData}, Dp K S v p → Dp K S' v p
  | _, _, .non => .non
  | _, _, .bl b => .bl b
  | _, _, .int i => .int i
  | _, _, .str x => .str x
  | _, _, .lst s r => .lst (h.seq s) (DpAll.up h r)
  | _, _, .tup s r => .tup (h.tup s) (DpAll.up h r)
theorem DpAll.up (h : Le S S') : ∀ {vs : List V} {ps : List PyData}, DpAll K S vs ps → DpAll K S' vs ps
  | _, _, .nil => .nil
  | _, _, .cons r t => .cons (Dp.up h r) (DpAll.up h t)
end
/-- what is read now: stable, or the list that a slot holds for itself -/
def Ra (K : PySem.W.Frag) (mg : Str → Option Value) (S H : Hp) (d : D) (v : V) : Prop := Rp K mg S d v ∨ ∃ (ds : List D) (a : Addr) (xs : List V), d = .lst ds ∧ v = .ref a ∧ H a = some (.lst xs) ∧ RpL K mg S ds xs
inductive RaL (K : PySem.W.Frag) (mg : Str → Option Value) (S H : Hp) : List D → List V → Prop
  | nil : RaL K mg S H [] []
  | cons {d : D} {v : V} {ds : List D} {vs : List V} : Ra K mg S H d v → RaL K mg S H ds vs → RaL K mg S H (d :: ds) (v :: vs)
theorem RpL.ra : ∀ {ds : List D} {vs : List V}, RpL K mg S ds vs → RaL K mg S H ds vs
  | _, _, .nil => .nil
  | _, _, .cons r t => .cons (.inl r) (RpL.ra t)
theorem Ra.lst {ds : List D} {v : V} (l : Le S H) (r : Ra K mg S H (.lst ds) v) : ∃ a xs, v = .ref a ∧ H a = some (.lst xs) ∧ RpL K mg S ds xs := by
  rcases r with r | ⟨ds', a, xs, e, rfl, h, q⟩
  · cases r with
    | lst s r => exact ⟨_, _, rfl, l _ _ s, r⟩
  · cases e; exact ⟨a, xs, rfl, h, q⟩
theorem Ra.tup {ds : List D} {v : V} (l : Le S H) (r : Ra K mg S H (.tup ds) v) : ∃ a xs, v = .ref a ∧ SqT K H a xs ∧ SqT K S a xs ∧ RpL K mg S ds xs := by
  rcases r with r | ⟨ds', a, xs, e, rfl, h, q⟩
  · cases r with
    | tup s r => exact ⟨_, _, rfl, l.tup s, s, r⟩
  · cases e
theorem Ra.lsq {ds : List D} {v : V} (l : Le S H) (r : Ra K mg S H (.lsq ds) v) : ∃ a xs, v = .ref a ∧ SqL K H a xs ∧ RpL K mg S ds xs := by
  rcases r with r | ⟨ds', a, xs, e, rfl, h, q⟩
  · cases r with
    | lsq s r => exact ⟨_, _, rfl, l.seq s, r⟩
  · cases e
theorem Ra.int {i : Int} {v : V} (r : Ra K mg S H (.int i) v) : v = .int i := by
  rcases r with r | ⟨ds', a, xs, e, _⟩
  · cases r; rfl
  · cases e
theorem Ra.bl {i : Bool} {v : V} (r : Ra K mg S H (.bl i) v) : v = .bl i := by
  rcases r with r | ⟨ds', a, xs, e, _⟩
  · cases r; rfl
  · cases e
theorem Ra.str {i : Str} {v : V} (r : Ra K mg S H (.str i) v) : v = .str i := by
  rcases r with r | ⟨ds', a, xs, e, _⟩
  · cases r; rfl
  · cases e
theorem Ra.non {v : V} (r : Ra K mg S H .non v) : v = .non := by
  rcases r with r | ⟨ds', a, xs, e, _⟩
  · cases r; rfl
  · cases e
theorem Ra.rp {d : D} {v : V} (r : Ra K mg S H d v) (n : ∀ ds, d ≠ .lst ds) : Rp K mg S d v := by
  rcases r with r | ⟨ds', a, xs, e, _⟩
  · exact r
  · exact absurd e (n _)
theorem Ra.dp {d : D} {v : V} {p : PyData} (l : Le S H) (r : Ra K mg S H d v) (e : d.toPy = some p) : Dp K H v p := by
  rcases r with r | ⟨ds', a, xs, rfl, rfl, h, q⟩
  · exact Dp.up l (r.dp e)
  · cases q1 : D.toPyL ds' with
    | none => simp [D.toPy, q1] at e
    | some xs => simp [D.toPy, q1] at e; subst e; exact .lst (SqL.of h) (DpAll.up l (q.dp q1))
/-- is it None -/
def D.isNon : D → Bool
  | .non => true
  | _ => false
theorem Ra.isNon {d : D} {v : V} (r : Ra K mg S H d v) : decide (v = .non) = d.isNon := by
  rcases r with r | ⟨ds', a, xs, rfl, rfl, h, q⟩
  · cases r <;> rfl
  · rfl
/-- what an operation gives -/
inductive Res (K : PySem.W.Frag) (mg : Str → Option Value) (S H : Hp) : Sv → V → Hp → Prop
  | same {d : D} {v : V} : Rp K mg S d v → Res K mg S H (.val d) v H
  | newL {p : Addr} {ds : List D} {xs : List V} : H p = none → RpL K mg S ds xs → Res K mg S H (.own (.lst ds)) (.ref p) (upd H p (.lst xs))
  | newT {p : Addr} {ds : List D} {xs : List V} : H p = none → RpL K mg S ds xs → Res K mg S H (.val (.tup ds)) (.ref p) (upd H p (.tup xs))
end
theorem RepAt.res {C : Cfg} {S H H' : Hp} {ts : List Sv} {vs : List V} {e : PEnv} {σ : L2.St} {z : Sv} {v : V} (h : RepAt C S ts vs e σ H) (r : Res C.K C.mg S H z v H') : ∃ S', RepAt C S' (z :: ts) (v :: vs) e σ H' := by
  cases r with
  | same r => exact ⟨S, h.pushV r⟩
  | newL hp r => exact ⟨S, h.pushL hp r⟩
  | newT hp r => exact ⟨_, h.pushT hp r⟩

/-! ### readings that come from an operation on data -/
abbrev F2 := D → D → (Sv → Prop) → Prop
abbrev FA := List D → (Sv → Prop) → Prop
def can2 (K : PySem.W.Frag) (mg : Str → Option Value) (f : F2) : R2 := fun x y H Q => ∃ (S : Hp) (a b : D) (P : Sv → Prop), Le S H ∧ Ra K mg S H a x ∧ Ra K mg S H b y ∧ f a b P ∧ ∀ z v H', Res K mg S H z v H' → P z → Q v H'
def canU (K : PySem.W.Frag) (mg : Str → Option Value) (f : D → (Sv → Prop) → Prop) : V → Hp → VK → Prop := fun x H Q => ∃ (S : Hp) (a : D) (P : Sv → Prop), Le S H ∧ Ra K mg S H a x ∧ f a P ∧ ∀ z v H', Res K mg S H z v H' → P z → Q v H'
def canA (K : PySem.W.Frag) (mg : Str → Option Value) (f : FA) : List V → Hp → VK → Prop := fun xs H Q => ∃ (S : Hp) (as : List D) (P : Sv → Prop), Le S H ∧ RaL K mg S H as xs ∧ f as P ∧ ∀ z v H', Res K mg S H z v H' → P z → Q v H'

def opB : Operator → F2
  | .Add, .int i, .int j, P => P (.val (.int (i + j)))
  | .Add, .str a, .str b, P => a.length + b.length ≤ sizeLine ∧ P (.val (.str (a ++ b)))
  | .Add, .tup a, .tup b, P => a.length + b.length ≤ sizeLine ∧ P (.val (.tup (a ++ b)))
  | .Add, .lst a, .lst b, P => a.length + b.length ≤ sizeLine ∧ P (.own (.lst (a ++ b)))
  | .Sub, .int i, .int j, P => P (.val (.int (i - j)))
  | .Mult, .int i, .int j, P => (CMul i j ∨ CMulW i j) ∧ P (.val (.int (i * j)))
  | .Mult, .lst a, .int k, P => (-(2 ^ 63) ≤ k ∧ k < 2 ^ 63 ∧ a.length * k.toNat ≤ sizeLine) ∧ P (.own (.lst (List.replicate k.toNat a).flatten))
  | .Mult, .str a, .int k, P => MulOk a k ∧ P (.val (.str (Txt.mul a k)))
  | .FloorDiv, .int i, .int j, P => CDivW i j ∧ P (.val (.int (i / j)))
  | .Mod, .int i, .int j, P => 0 < j ∧ P (.val (.int (i % j)))
  | .Pow, .int i, .int j, P => CPow i j ∧ P (.val (.int (i ^ j.toNat)))
  | .LShift, .int i, .int j, P => CPow i j ∧ P (.val (.int (i * 2 ^ j.toNat)))
  | .BitAnd, .int i, .int j, P => P (.val (.int (Builtin.bitAnd i j)))
  | _, _, _, _ => False

section
variable {K : PySem.W.Frag} {mg : Str → Option Value} {S H : Hp}
theorem RpL.flatten {a : List D} {xs : List V} (r : RpL K mg S a xs) : ∀ n, RpL K mg S (List.replicate n a).flatten (List.replicate n xs).flatten
  | 0 => .nil
  | n + 1 => by
    rw [List.replicate_succ, List.replicate_succ, List.flatten_cons, List.flatten_cons]
    exact r.append (RpL.flatten r n)
variable {X : Cx}
theorem int2 {f : Value → Value → Sem Value} {Cc : Int → Int → Prop} {g : Int → Int → Int} (ho : OpR X f (rI Cc fun i j => .int (g i j))) {pins : List (Addr × Obj)} {s : Shared} {σ : L2.St} {Q : VK} {i j : Int} {x y : V} {v u : Value} {P : Sv → Prop} (I : Inv X pins σ H s) (rx : RelV x v) (ry : RelV y u)
    (ex : x = .int i) (ey : y = .int j) (hc : Cc i j) (p : P (.val (.int (g i j)))) (k : ∀ z v H', Res K mg S H z v H' → P z → Q v H') : wpAny (model X.prog X.w) X.A (f v u) (EP X pins σ Q) X.xe s :=
  ho pins s σ H x y v u Q I rx ry ⟨i, j, ex, ey, hc, k _ _ _ (.same (.int _)) p⟩
theorem int20 {f : Value → Value → Sem Value} {g : Int → Int → Int} (ho : OpR X f (rI0 fun i j => .int (g i j))) {pins : List (Addr × Obj)} {s : Shared} {σ : L2.St} {Q : VK} {i j : Int} {x y : V} {v u : Value} {P : Sv → Prop} (I : Inv X pins σ H s) (rx : RelV x v) (ry : RelV y u)
    (ex : x = .int i) (ey : y = .int j) (p : P (.val (.int (g i j)))) (k : ∀ z v H', Res K mg S H z v H' → P z → Q v H') : wpAny (model X.prog X.w) X.A (f v u) (EP X pins σ Q) X.xe s :=
  ho pins s σ H x y v u Q I rx ry ⟨i, j, ex, ey, k _ _ _ (.same (.int _)) p⟩
theorem mul_txt {pins : List (Addr × Obj)} {s : Shared} {σ : L2.St} {Q : VK} {a : Str} {k : Int} {v u : Value} (I : Inv X pins σ H s) (rx : RelV (.str a) v) (ry : RelV (.int k) u) (m : MulOk a k) (q : Q (.str (Txt.mul a k)) H) :
    wpAny (model X.prog X.w) X.A (binaryOp .Mult v u) (EP X pins σ Q) X.xe s := by
  obtain ⟨t, rfl⟩ := rx
  obtain ⟨t2, rfl⟩ := ry
  exact SB.mul m fun t' tk => ⟨.str (Txt.mul a k), H, I.tok tk, ⟨t', rfl⟩, q⟩
theorem op_can (op : Operator) : OpR X (binaryOp op) (can2 X.K mg (opB op)) := by
  intro pins s σ H x y v u Q I rx ry h
  obtain ⟨S, a, b, P, l, ra, rb, hf, k⟩ := h
  unfold opB at hf
  split at hf
  · exact int20 op_add I rx ry ra.int rb.int hf k
  · obtain ⟨z, hf⟩ := hf
    exact op_add_str pins s σ H x y v u Q I rx ry ⟨_, _, ra.str, rb.str, z, k _ _ _ (.same (.str _)) hf⟩
  · obtain ⟨z, hf⟩ := hf
    rename_i a b
    obtain ⟨p, xs, rfl, ha, ha', r1⟩ := ra.tup l
    obtain ⟨q, ys, rfl, hb, hb', r2⟩ := rb.tup l
    refine op_catA pins s σ H _ _ v u Q I rx ry ⟨p, q, xs, ys, rfl, rfl, ha, hb, by rw [← r1.length, ← r2.length]; exact z, fun e => ?_, fun _ e => ?_, fun _ _ t ht => ?_⟩
    · subst e; cases r1
      exact k _ _ _ (.same (.tup hb' r2)) hf
    · subst e; cases r2
      rw [List.append_nil] at hf
      exact k _ _ _ (.same (.tup ha' r1)) hf
    · exact k _ _ _ (.newT ht (r1.append r2)) hf
  · obtain ⟨z, hf⟩ := hf
    obtain ⟨p, xs, rfl, ha, r1⟩ := ra.lst l
    obtain ⟨q, ys, rfl, hb, r2⟩ := rb.lst l
    exact op_cat pins s σ H _ _ v u Q I rx ry ⟨p, q, xs, ys, rfl, rfl, ha, hb, by rw [← r1.length, ← r2.length]; exact z, fun t ht => k _ _ _ (.newL ht (r1.append r2)) hf⟩
  · exact int20 op_sub I rx ry ra.int rb.int hf k
  · obtain ⟨z, hf⟩ := hf
    rcases z with z | z
    · exact int2 op_mul I rx ry ra.int rb.int z hf k
    · exact int2 op_mulW I rx ry ra.int rb.int z hf k
  · obtain ⟨z, hf⟩ := hf
    obtain ⟨p, xs, rfl, ha, r1⟩ := ra.lst l
    exact op_rep pins s σ H _ _ v u Q I rx ry ⟨p, _, xs, rfl, rb.int, ha, z.1, z.2.1, by rw [← r1.length]; exact z.2.2, fun t ht => k _ _ _ (.newL ht (r1.flatten _)) hf⟩
  · have e1 := ra.str; have e2 := rb.int
    subst e1; subst e2
    exact mul_txt I rx ry hf.1 (k _ _ _ (.same (.str _)) hf.2)
  · exact int2 op_fdivW I rx ry ra.int rb.int hf.1 hf.2 k
  · exact int2 op_mod I rx ry ra.int rb.int hf.1 hf.2 k
  · exact int2 op_pow I rx ry ra.int rb.int hf.1 hf.2 k
  · exact int2 op_shl I rx ry ra.int rb.int hf.1 hf.2 k
  · exact int20 op_and I rx ry ra.int rb.int hf k
  · exact hf.elim
end

/-! ### one place -/
def unB : UnaryOp → D → (Sv → Prop) → Prop
  | .USub, .int i, P => P (.val (.int (-i)))
  | _, _, _ => False
theorem un_can {X : Cx} {mg : Str → Option Value} (op : UnaryOp) : UnR X (unaryOp op) (canU X.K mg (unB op)) := by
  intro pins s σ H x v Q I rx h
  obtain ⟨S, a, P, l, ra, hf, k⟩ := h
  unfold unB at hf
  split at hf
  · exact un_neg pins s σ H x v Q I rx ⟨_, ra.int, k _ _ _ (.same (.int _)) hf⟩
  · exact hf.elim

/-! ### comparisons -/
/-- == of data -/
def eqD (a b : D) : Option Bool := match a, b with
  | .int i, .int j => some (decide (i = j))
  | .str i, .str j => some (decide (i = j))
  | a, b => match a.toPy, b.toPy with
    | some p, some q => if SeqAt.shaped p = true ∧ SeqAt.shaped q = true then some (PyData.eqv p q) else none
    | _, _ => none
/-- flat values: none, bools, ints, texts -/
def D.flat : D → Bool
  | .non | .bl _ | .int _ | .str _ => true
  | _ => false
def D.toV : D → V
  | .non => .non | .bl b => .bl b | .int i => .int i | .str x => .str x | _ => .non
def cmpB : CmpOp → F2
  | .Eq, a, b, P => ∃ k, eqD a b = some k ∧ P (.val (.bl k))
  | .NotEq, a, b, P => ∃ k, eqD a b = some k ∧ P (.val (.bl (!k)))
  | .Lt, .int i, .int j, P => P (.val (.bl (decide (i < j))))
  | .LtE, .int i, .int j, P => P (.val (.bl (decide (i ≤ j))))
  | .Gt, .int i, .int j, P => P (.val (.bl (decide (j < i))))
  | .GtE, .int i, .int j, P => P (.val (.bl (decide (j ≤ i))))
  | .In, a, .tup bs, P => a.flat = true ∧ bs.all D.flat = true ∧ P (.val (.bl (inV a.toV (bs.map D.toV))))
  | .In, a, .lst bs, P => a.flat = true ∧ bs.all D.flat = true ∧ P (.val (.bl (inV a.toV (bs.map D.toV))))
  | .In, .str a, .str z, P => ∃ c, a = ⟨#[c]⟩ ∧ P (.val (.bl (decide (c ∈ z.cps.toList))))
  | .NotIn, .str a, .str z, P => ∃ c, a = ⟨#[c]⟩ ∧ P (.val (.bl (!decide (c ∈ z.cps.toList))))
  | .NotIn, a, .tup bs, P => a.flat = true ∧ bs.all D.flat = true ∧ P (.val (.bl (!inV a.toV (bs.map D.toV))))
  | .NotIn, a, .lst bs, P => a.flat = true ∧ bs.all D.flat = true ∧ P (.val (.bl (!inV a.toV (bs.map D.toV))))
  | _, _, _, _ => False
section
variable {K : PySem.W.Frag} {mg : Str → Option Value} {S H : Hp} {X : Cx}
theorem Ra.flat {d : D} {v : V} (r : Ra K mg S H d v) (h : d.flat = true) : v = d.toV ∧ flatV v = true := by
  cases d with
  | non => rw [r.non]; exact ⟨rfl, rfl⟩
  | bl b => rw [r.bl]; exact ⟨rfl, rfl⟩
  | int b => rw [r.int]; exact ⟨rfl, rfl⟩
  | str b => rw [r.str]; exact ⟨rfl, rfl⟩
  | _ => cases h
theorem RpL.flat : ∀ {ds : List D} {vs : List V}, RpL K mg S ds vs → ds.all D.flat = true → vs = ds.map D.toV ∧ vs.all flatV = true
  | _, _, .nil, _ => ⟨rfl, rfl⟩
  | _, _, .cons (d := d) r t, h => by
    rw [List.all_cons, Bool.and_eq_true] at h
    obtain ⟨h1, h2⟩ := Ra.flat (H := S) (.inl r) h.1
    obtain ⟨h3, h4⟩ := RpL.flat t h.2
    refine ⟨by rw [List.map_cons, ← h3, ← h1], ?_⟩
    rw [List.all_cons, h2, h4]; rfl
theorem intB {f : Value → Value → Sem Value} {g : Int → Int → Bool} (ho : OpR X f (rI0 fun i j => .bl (g i j))) {pins : List (Addr × Obj)} {s : Shared} {σ : L2.St} {Q : VK} {i j : Int} {x y : V} {v u : Value} {P : Sv → Prop} (I : Inv X pins σ H s) (rx : RelV x v) (ry : RelV y u)
    (ex : x = .int i) (ey : y = .int j) (p : P (.val (.bl (g i j)))) (k : ∀ z v H', Res K mg S H z v H' → P z → Q v H') : wpAny (model X.prog X.w) X.A (f v u) (EP X pins σ Q) X.xe s :=
  ho pins s σ H x y v u Q I rx ry ⟨i, j, ex, ey, k _ _ _ (.same (.bl _)) p⟩
theorem eq_gen (neg : Bool) (hu : X.A.units + 64 < cLine) {pins : List (Addr × Obj)} {s : Shared} {σ : L2.St} {Q : VK} {x y : V} {v u : Value} {a b : D} {r : Bool} (I : Inv X pins σ H s) (rx : RelV x v) (ry : RelV y u) (l : Le S H) (ra : Ra X.K mg S H a x) (rb : Ra X.K mg S H b y) (he : eqD a b = some r) (q : Q (.bl (if neg then !r else r)) H) :
    wpAny (model X.prog X.w) X.A (compareOp (if neg then .NotEq else .Eq) v u) (EP X pins σ Q) X.xe s := by
  unfold eqD at he
  split at he
  · cases he
    have e1 := ra.int; have e2 := rb.int
    subst e1; subst e2
    cases neg
    · exact op_eq pins s σ H _ _ v u Q I rx ry ⟨rfl, by simpa [V.int.injEq] using q⟩
    · exact op_ne pins s σ H _ _ v u Q I rx ry ⟨rfl, by simpa [V.int.injEq] using q⟩
  · cases he
    have e1 := ra.str; have e2 := rb.str
    subst e1; subst e2
    cases neg
    · exact op_eq pins s σ H _ _ v u Q I rx ry ⟨rfl, by simpa [V.str.injEq] using q⟩
    · exact op_ne pins s σ H _ _ v u Q I rx ry ⟨rfl, by simpa [V.str.injEq] using q⟩
  · split at he
    · rename_i p p' e1 e2
      split at he
      · rename_i sh
        cases he
        cases neg
        · exact op_eqD hu pins s σ H _ _ v u Q I rx ry ⟨p, p', ra.dp l e1, rb.dp l e2, sh.1, sh.2, q⟩
        · exact op_neD hu pins s σ H _ _ v u Q I rx ry ⟨p, p', ra.dp l e1, rb.dp l e2, sh.1, sh.2, q⟩
      · cases he
    · cases he
theorem cmp_can (op : CmpOp) (hu : X.A.units + 64 < cLine) : OpR X (compareOp op) (can2 X.K mg (cmpB op)) := by
  intro pins s σ H x y v u Q I rx ry h
  obtain ⟨S, a, b, P, l, ra, rb, hf, k⟩ := h
  unfold cmpB at hf
  split at hf
  · obtain ⟨r, e, p⟩ := hf
    exact eq_gen false hu I rx ry l ra rb e (k _ _ _ (.same (.bl _)) p)
  · obtain ⟨r, e, p⟩ := hf
    exact eq_gen true hu I rx ry l ra rb e (k _ _ _ (.same (.bl _)) p)
  · exact intB op_lt I rx ry ra.int rb.int hf k
  · exact intB op_le I rx ry ra.int rb.int hf k
  · exact intB op_gt I rx ry ra.int rb.int hf k
  · exact intB op_ge I rx ry ra.int rb.int hf k
  · obtain ⟨h1, h2, p⟩ := hf
    obtain ⟨e1, e2⟩ := ra.flat h1
    obtain ⟨q, ys, rfl, hb, _, r2⟩ := rb.tup l
    obtain ⟨e3, e4⟩ := r2.flat h2
    refine op_in_seq pins s σ H _ _ v u Q I rx ry ⟨q, ys, rfl, .inr hb, e2, e4, ?_⟩
    rw [e1, e3]
    exact k _ _ _ (.same (.bl _)) p
  · obtain ⟨h1, h2, p⟩ := hf
    obtain ⟨e1, e2⟩ := ra.flat h1
    obtain ⟨q, ys, rfl, hb, r2⟩ := rb.lst l
    obtain ⟨e3, e4⟩ := r2.flat h2
    refine op_in_seq pins s σ H _ _ v u Q I rx ry ⟨q, ys, rfl, .inl (SqL.of hb), e2, e4, ?_⟩
    rw [e1, e3]
    exact k _ _ _ (.same (.bl _)) p
  · obtain ⟨c, e, p⟩ := hf
    subst e
    exact op_inS pins s σ H _ _ v u Q I rx ry ⟨c, _, ra.str, rb.str, k _ _ _ (.same (.bl _)) p⟩
  · obtain ⟨c, e, p⟩ := hf
    subst e
    exact op_notInS pins s σ H _ _ v u Q I rx ry ⟨c, _, ra.str, rb.str, k _ _ _ (.same (.bl _)) p⟩
  · obtain ⟨h1, h2, p⟩ := hf
    obtain ⟨e1, e2⟩ := ra.flat h1
    obtain ⟨q, ys, rfl, hb, _, r2⟩ := rb.tup l
    obtain ⟨e3, e4⟩ := r2.flat h2
    refine op_notIn_seq pins s σ H _ _ v u Q I rx ry ⟨q, ys, rfl, .inr hb, e2, e4, ?_⟩
    rw [e1, e3]
    exact k _ _ _ (.same (.bl _)) p
  · obtain ⟨h1, h2, p⟩ := hf
    obtain ⟨e1, e2⟩ := ra.flat h1
    obtain ⟨q, ys, rfl, hb, r2⟩ := rb.lst l
    obtain ⟨e3, e4⟩ := r2.flat h2
    refine op_notIn_seq pins s σ H _ _ v u Q I rx ry ⟨q, ys, rfl, .inl (SqL.of hb), e2, e4, ?_⟩
    rw [e1, e3]
    exact k _ _ _ (.same (.bl _)) p
  · exact hf.elim
end

/-! ### items and slices -/
def itemB : D → D → (Sv → Prop) → Prop
  | .tup ds, .int i, P => ∃ d, atI ds i = some d ∧ P (.val d)
  | .lst ds, .int i, P => ∃ d, atI ds i = some d ∧ P (.val d)
  | .lsq ds, .int i, P => ∃ d, atI ds i = some d ∧ P (.val d)
  | .str z, .int i, P => z.length ≤ sizeLine ∧ ∃ c, atI z.cps.toList i = some c ∧ P (.val (.str ⟨#[c]⟩))
  | _, _, _ => False
section
variable {K : PySem.W.Frag} {mg : Str → Option Value} {S H : Hp} {X : Cx}
theorem RpL.atI {ds : List D} {vs : List V} {i : Int} {d : D} (r : RpL K mg S ds vs) (h : L2.atI ds i = some d) : ∃ v, L2.atI vs i = some v ∧ Rp K mg S d v := by
  unfold L2.atI at h ⊢
  rw [← r.length]
  cases e : ixN ds.length i with
  | none => rw [e] at h; cases h
  | some j =>
    rw [e] at h
    exact r.get h
theorem ix_can : IxR X (can2 X.K mg itemB) := by
  intro value slice pins s σ H x y v u Q I rx ry h hs
  obtain ⟨S, a, b, P, l, ra, rb, hf, k⟩ := h
  unfold itemB at hf
  split at hf
  · obtain ⟨d, e, p⟩ := hf
    obtain ⟨q, ys, rfl, hb, _, r2⟩ := ra.tup l
    obtain ⟨w, e2, r⟩ := r2.atI e
    exact ix_tup value slice pins s σ H _ _ v u Q I rx ry ⟨q, ys, _, w, rfl, rb.int, hb, e2, k _ _ _ (.same r) p⟩ hs
  · obtain ⟨d, e, p⟩ := hf
    obtain ⟨q, ys, rfl, hb, r2⟩ := ra.lst l
    obtain ⟨w, e2, r⟩ := r2.atI e
    exact ix_list value slice pins s σ H _ _ v u Q I rx ry ⟨q, ys, _, w, rfl, rb.int, SqL.of hb, e2, k _ _ _ (.same r) p⟩ hs
  · obtain ⟨d, e, p⟩ := hf
    obtain ⟨q, ys, rfl, hb, r2⟩ := ra.lsq l
    obtain ⟨w, e2, r⟩ := r2.atI e
    exact ix_list value slice pins s σ H _ _ v u Q I rx ry ⟨q, ys, _, w, rfl, rb.int, hb, e2, k _ _ _ (.same r) p⟩ hs
  · obtain ⟨z, c, e, p⟩ := hf
    exact ix_str value slice pins s σ H _ _ v u Q I rx ry ⟨_, _, c, ra.str, rb.int, z, e, k _ _ _ (.same (.str _)) p⟩ hs
  · exact hf.elim
def cutD (xs : List D) (lo hi : Option Int) : List D := (xs.drop (HT.sIx xs.length 0 lo)).take (HT.sIx xs.length xs.length hi - HT.sIx xs.length 0 lo)
theorem RpL.cut {ds : List D} {vs : List V} (r : RpL K mg S ds vs) (lo hi : Option Int) : RpL K mg S (cutD ds lo hi) (cutV vs lo hi) := by
  unfold cutD cutV
  rw [r.length]
  exact (r.drop _).take _
def sliceB : D → Option Int → Option Int → (Sv → Prop) → Prop
  | .tup ds, lo, hi, P => P (.val (.tup (cutD ds lo hi)))
  | .lst ds, lo, hi, P => P (.own (.lst (cutD ds lo hi)))
  | .lsq ds, lo, hi, P => P (.own (.lst (cutD ds lo hi)))
  | .str z, lo, hi, P => z.length ≤ sizeLine ∧ P (.val (.str (cutS z lo hi)))
  | _, _, _, _ => False
def canSl (K : PySem.W.Frag) (mg : Str → Option Value) : V → Option Int → Option Int → Hp → VK → Prop := fun x lo hi H Q => ∃ (S : Hp) (a : D) (P : Sv → Prop), Le S H ∧ Ra K mg S H a x ∧ sliceB a lo hi P ∧ ∀ z v H', Res K mg S H z v H' → P z → Q v H'
theorem cut_whole {ds : List D} {lo hi : Option Int} (h : HT.sIx ds.length 0 lo = 0 ∧ HT.sIx ds.length ds.length hi = ds.length) : cutD ds lo hi = ds := by
  unfold cutD
  rw [h.1, h.2, List.drop_zero, Nat.sub_zero, List.take_length]
theorem sl_can : SlR X (canSl X.K mg) := by
  intro pins s σ H x v vl vu lo hi sl Q I rx hs pl pu h
  obtain ⟨S, a, P, l, ra, hf, k⟩ := h
  unfold sliceB at hf
  split at hf
  · obtain ⟨q, ys, rfl, hb, hb', r2⟩ := ra.tup l
    refine sl_tupA pins s σ H _ v vl vu lo hi sl Q I rx hs pl pu ⟨q, ys, rfl, hb, fun e => ?_, fun _ p hp => ?_⟩
    · rw [← r2.length] at e
      rw [cut_whole e] at hf
      exact k _ _ _ (.same (.tup hb' r2)) hf
    · exact k _ _ _ (.newT hp (r2.cut lo hi)) hf
  · obtain ⟨q, ys, rfl, hb, r2⟩ := ra.lst l
    exact sl_list pins s σ H _ v vl vu lo hi sl Q I rx hs pl pu ⟨q, ys, rfl, SqL.of hb, fun p hp => k _ _ _ (.newL hp (r2.cut lo hi)) hf⟩
  · obtain ⟨q, ys, rfl, hb, r2⟩ := ra.lsq l
    exact sl_list pins s σ H _ v vl vu lo hi sl Q I rx hs pl pu ⟨q, ys, rfl, hb, fun p hp => k _ _ _ (.newL hp (r2.cut lo hi)) hf⟩
  · exact sl_str pins s σ H _ v vl vu lo hi sl Q I rx hs pl pu ⟨_, ra.str, hf.1, k _ _ _ (.same (.str _)) hf.2⟩
  · exact hf.elim
end

/-! ### built-ins -/
inductive Blt where
  | len | abs | int_ | bool_ | str_ | min_ | max_ | sum_ | all_ | any_ | list_ | tuple_ | repr_
  deriving DecidableEq
def Blt.val : Blt → Value
  | .len => .builtin "len" | .abs => .builtin "abs" | .int_ => .type "int" | .bool_ => .type "bool" | .str_ => .type "str" | .min_ => .builtin "min" | .max_ => .builtin "max"
  | .sum_ => .builtin "sum" | .all_ => .builtin "all" | .any_ => .builtin "any" | .list_ => .type "list" | .tuple_ => .type "tuple" | .repr_ => .builtin "repr"
/-- a list's or a tuple's items -/
def D.items : D → Option (List D)
  | .tup ds => some ds
  | .lst ds => some ds
  | .lsq ds => some ds
  | _ => none
def bltB : Blt → FA
  | .len, [.tup ds], P => P (.val (.int ds.length))
  | .len, [.lst ds], P => P (.val (.int ds.length))
  | .len, [.lsq ds], P => P (.val (.int ds.length))
  | .len, [.str z], P => z.length ≤ sizeLine ∧ P (.val (.int z.length))
  | .abs, [.int i], P => P (.val (.int (if i < 0 then -i else i)))
  | .int_, [.int i], P => P (.val (.int i))
  | .int_, [.bl k], P => P (.val (.int (if k = true then 1 else 0)))
  | .int_, [.str z], P => ∃ n, PySem.intText? z = some n ∧ z.length ≤ 640 ∧ P (.val (.int n))
  | .bool_, [.bl k], P => P (.val (.bl k))
  | .str_, [.int i], P => i.natAbs.log2 < 1920 ∧ P (.val (.str (Str.ofString (toString i))))
  | .min_, [.int i, .int j], P => P (.val (.int (if j < i then j else i)))
  | .min_, [.int i, .int j, .int k], P => P (.val (.int (if k < (if j < i then j else i) then k else (if j < i then j else i))))
  | .max_, [.int i, .int j], P => P (.val (.int (if j > i then j else i)))
  | .min_, [.lst ds], P => ∃ ns : List Int, ds = ns.map D.int ∧ 0 < ns.length ∧ ∀ m, m ∈ ns → (∀ y, y ∈ ns → m ≤ y) → P (.val (.int m))
  | .max_, [.lst ds], P => (∃ ns : List Int, ds = ns.map D.int ∧ 0 < ns.length ∧ ∀ m, m ∈ ns → (∀ y, y ∈ ns → y ≤ m) → P (.val (.int m))) ∨
      ∃ x xs, D.toPyL ds = some (x :: xs) ∧ PySem.W.AlikeAll (x :: xs) ∧ PyData.canLayAll0 (x :: xs) = true ∧ PyData.depthAll (x :: xs) ≤ 60 ∧ ∀ (i : Nat) d, ds[i]? = some d → d.toPy = some (PySem.W.maxD x xs) → P (.val d)
  | .sum_, [.lst ds], P => ∃ ns : List Int, ds = ns.map D.int ∧ P (.val (.int ns.sum))
  | .all_, [.lst ds], P => ∃ ns : List Bool, ds = ns.map D.bl ∧ P (.val (.bl (ns.all id)))
  | .any_, [.lst ds], P => ∃ ns : List Bool, ds = ns.map D.bl ∧ P (.val (.bl (ns.any id)))
  | .list_, [d], P => ∃ ds, d.items = some ds ∧ P (.own (.lst ds))
  | .tuple_, [.tup ds], P => P (.val (.tup ds))
  | .tuple_, [.lst ds], P => P (.val (.tup ds))
  | .tuple_, [.lsq ds], P => P (.val (.tup ds))
  | .repr_, [d], P => ∃ p, d.toPy = some p ∧ d.items.isSome = true ∧ p.showable = true ∧ p.depth ≤ 60 ∧ p.shown.length ≤ sizeLine ∧ P (.val (.str p.shown))
  | _, _, _ => False
section
variable {K : PySem.W.Frag} {mg : Str → Option Value} {S H : Hp} {X : Cx}
theorem RaL.one {d : D} {xs : List V} (r : RaL K mg S H [d] xs) : ∃ x, xs = [x] ∧ Ra K mg S H d x := by
  cases r with | cons r t => cases t; exact ⟨_, rfl, r⟩
theorem RaL.two {d d' : D} {xs : List V} (r : RaL K mg S H [d, d'] xs) : ∃ x y, xs = [x, y] ∧ Ra K mg S H d x ∧ Ra K mg S H d' y := by
  cases r with | cons r t => cases t with | cons r' t => cases t; exact ⟨_, _, rfl, r, r'⟩
theorem RaL.three {d d' d2 : D} {xs : List V} (r : RaL K mg S H [d, d', d2] xs) : ∃ x y z, xs = [x, y, z] ∧ Ra K mg S H d x ∧ Ra K mg S H d' y ∧ Ra K mg S H d2 z := by
  cases r with | cons r t => cases t with | cons r' t => cases t with | cons r2 t => cases t; exact ⟨_, _, _, rfl, r, r', r2⟩
theorem nuMin2_int {i j : Int} : nuMin2 (.int i) (.int j) = some (.int (if j < i then j else i)) := by
  unfold nuMin2 nuLt
  by_cases h : j < i
  · rw [if_pos h]
    simp [nuCB, h]
  · rw [if_neg h]
    simp [nuCB, h]
theorem nuMin3_int {i j k : Int} : nuMin3 (.int i) (.int j) (.int k) = some (.int (if k < (if j < i then j else i) then k else (if j < i then j else i))) := by
  unfold nuMin3
  rw [nuMin2_int]
  exact nuMin2_int
theorem toPyL_get : ∀ {ds : List D} {ps : List PyData} {i : Nat} {d : D}, D.toPyL ds = some ps → ds[i]? = some d → ∃ p, d.toPy = some p ∧ ps[i]? = some p
  | [], _, _, _, _, h => by simp at h
  | d :: ds, ps, i, e, h, q => by
    unfold D.toPyL at h
    split at h
    · rename_i x xs h1 h2
      cases h
      cases i with
      | zero => simp at q; subst q; exact ⟨x, h1, rfl⟩
      | succ i =>
        obtain ⟨p, h3, h4⟩ := toPyL_get (i := i) h2 (by simpa using q)
        exact ⟨p, h3, by simpa using h4⟩
    · cases h
theorem blt_maxD (hc : X.calm = true) (hu : X.A.units + 64 < cLine) {pins : List (Addr × Obj)} {s : Shared} {σ : L2.St} {Q : VK} {q : Addr} {us : List Value} {ds : List D} {ys : List V} {x : PyData} {xs : List PyData} {P : Sv → Prop} (I : Inv X pins σ H s) (r : Vals [V.ref q] us) (l : Le S H) (hb : H q = some (.lst ys)) (r2 : RpL X.K mg S ds ys)
    (h1 : D.toPyL ds = some (x :: xs)) (h2 : PySem.W.AlikeAll (x :: xs)) (h3 : PyData.canLayAll0 (x :: xs) = true) (h4 : PyData.depthAll (x :: xs) ≤ 60) (p : ∀ (i : Nat) d, ds[i]? = some d → d.toPy = some (PySem.W.maxD x xs) → P (.val d)) (k : ∀ z v H', Res X.K mg S H z v H' → P z → Q v H') :
    wpAny (model X.prog X.w) X.A (call (.builtin "max") us) (EP X pins σ Q) X.xe s := by
  cases r with
  | cons r rr =>
    cases rr
    rename_i u
    obtain rfl : u = Value.ref q := r
    obtain ⟨its, rv, pl, hz⟩ := I.list (SqL.of hb)
    obtain ⟨as, hr⟩ := Dp.readsAll I (x :: xs) ys its (DpAll.up l (r2.dp h1)) rv
    refine PySem.W.max_list_data (I.ok.hd hc) (by first | exact pl.isList | exact pl) (by simpa using hr) h2 (by omega) fun i v h' tk bs hv hrd hkp => ?_
    have hv' : its[i]? = some v := by simpa using hv
    obtain ⟨y, hy, ry⟩ : ∃ y, ys[i]? = some y ∧ RelV y v := by
      have hl := rv.length
      have hi := (List.getElem?_eq_some_iff.mp hv').1
      obtain ⟨y, hy⟩ : ∃ y, ys[i]? = some y := ⟨ys[i]'(by omega), by simp⟩
      obtain ⟨w, e1, e2⟩ := rv.get hy
      rw [hv'] at e1; cases e1
      exact ⟨y, hy, e2⟩
    obtain ⟨d, hd, rd⟩ := r2.getV hy
    obtain ⟨pd, e1, e2⟩ := toPyL_get h1 hd
    obtain ⟨bs', hr', _⟩ := PySem.W.readsAll_atA (vs := its.toArray) (by simpa using hr) i v hv
    have e3 : (x :: xs).getD i .none = pd := by rw [List.getD_eq_getElem?_getD, e2]; rfl
    rw [e3] at hr'
    have cl : pd.canLay0 = true := PyData.canLay0_of_mem _ _ h3 (List.mem_of_getElem? e2)
    have e4 : pd = PySem.W.maxD x xs := PySem.SeqAt.Reads.unique pd _ v _ _ cl (PySem.W.reads_keeps hkp hr') hrd
    subst e4
    have res : Res X.K mg S H (.val d) y H := .same rd
    exact ⟨y, H, I.kept (t' := tk) hkp, ry, k _ _ _ res (p i d hd e1)⟩
mutual
theorem noDct : ∀ {d : D} {p : PyData}, d.toPy = some p → p.hasDict = false
  | .non, _, h => by cases h; rfl
  | .bl _, _, h => by cases h; rfl
  | .int _, _, h => by cases h; rfl
  | .str _, _, h => by cases h; rfl
  | .tup ds, _, h => by
    unfold D.toPy at h
    cases q : D.toPyL ds with
    | none => rw [q] at h; cases h
    | some xs => rw [q] at h; cases h; exact noDctL q
  | .lst ds, _, h => by
    unfold D.toPy at h
    cases q : D.toPyL ds with
    | none => rw [q] at h; cases h
    | some xs => rw [q] at h; cases h; exact noDctL q
  | .lsq ds, _, h => by
    unfold D.toPy at h
    cases q : D.toPyL ds with
    | none => rw [q] at h; cases h
    | some xs => rw [q] at h; cases h; exact noDctL q
  | .obj _ _, _, h => by cases h
theorem noDctL : ∀ {ds : List D} {ps : List PyData}, D.toPyL ds = some ps → PyData.hasDictAll ps = false
  | [], _, h => by cases h; rfl
  | d :: ds, _, h => by
    unfold D.toPyL at h
    split at h
    · rename_i x xs h1 h2
      cases h
      show (x.hasDict || PyData.hasDictAll xs) = false
      rw [noDct h1, noDctL h2]
      rfl
    · cases h
end
theorem blt_repr (hg : X.A.guards = some []) (hu : X.A.units + 64 < cLine) {pins : List (Addr × Obj)} {s : Shared} {σ : L2.St} {Q : VK} {d : D} {x : V} {us : List Value} {p : PyData} {P : Sv → Prop} (I : Inv X pins σ H s) (r : Vals [x] us) (l : Le S H) (ra : Ra X.K mg S H d x)
    (h1 : d.toPy = some p) (h2 : d.items.isSome = true) (h3 : p.showable = true) (h4 : p.depth ≤ 60) (h5 : p.shown.length ≤ sizeLine) (q : P (.val (.str p.shown))) (k : ∀ z v H', Res X.K mg S H z v H' → P z → Q v H') :
    wpAny (model X.prog X.w) X.A (call (.builtin "repr") us) (EP X pins σ Q) X.xe s := by
  cases r with
  | cons r rr =>
    cases rr
    rename_i u
    obtain ⟨as, hr⟩ := Dp.reads I p x u (ra.dp l h1) r
    have hx : ∃ a, x = .ref a := by
      cases d with
      | tup ds => obtain ⟨a, _, e, _⟩ := ra.tup l; exact ⟨a, e⟩
      | lst ds => obtain ⟨a, _, e, _⟩ := ra.lst l; exact ⟨a, e⟩
      | lsq ds => obtain ⟨a, _, e, _⟩ := ra.lsq l; exact ⟨a, e⟩
      | _ => cases h2
    obtain ⟨a, rfl⟩ := hx
    obtain rfl : u = Value.ref a := r
    refine repr_of_reads' hr h3 (PyData.noDict_hsm (noDct h1)) hg (by omega) (fun _ _ e => e) (fun h' t tk hk => ?_) h5
    exact ⟨.str p.shown, H, I.kept (t' := tk) hk, ⟨t, rfl⟩, k _ _ _ (.same (.str _)) q⟩
theorem blt_can (hgd : X.A.guards = some []) (hc : X.calm = true) (hu : X.A.units + 64 < cLine) (b : Blt) : CallR X b.val (canA X.K mg (bltB b)) := by
  intro pins s σ H xs us Q I r h
  obtain ⟨S, as, P, l, rA, hf, k⟩ := h
  unfold bltB at hf
  split at hf
  · obtain ⟨x, rfl, ra⟩ := rA.one
    obtain ⟨q, ys, rfl, hb, _, r2⟩ := ra.tup l
    refine call_len pins s σ H _ us Q I r ⟨_, ys.length, rfl, .inr ⟨ys, hb, rfl⟩, ?_⟩
    rw [← r2.length]; exact k _ _ _ (.same (.int _)) hf
  · obtain ⟨x, rfl, ra⟩ := rA.one
    obtain ⟨q, ys, rfl, hb, r2⟩ := ra.lst l
    refine call_len pins s σ H _ us Q I r ⟨_, ys.length, rfl, .inl ⟨ys, SqL.of hb, rfl⟩, ?_⟩
    rw [← r2.length]; exact k _ _ _ (.same (.int _)) hf
  · obtain ⟨x, rfl, ra⟩ := rA.one
    obtain ⟨q, ys, rfl, hb, r2⟩ := ra.lsq l
    refine call_len pins s σ H _ us Q I r ⟨_, ys.length, rfl, .inl ⟨ys, hb, rfl⟩, ?_⟩
    rw [← r2.length]; exact k _ _ _ (.same (.int _)) hf
  · obtain ⟨x, rfl, ra⟩ := rA.one
    have e := ra.str; subst e
    exact call_len pins s σ H _ us Q I r ⟨_, _, rfl, ⟨hf.1, rfl⟩, k _ _ _ (.same (.int _)) hf.2⟩
  · obtain ⟨x, rfl, ra⟩ := rA.one
    have e := ra.int; subst e
    exact call_abs pins s σ H _ us Q I r ⟨_, rfl, k _ _ _ (.same (.int _)) hf⟩
  · obtain ⟨x, rfl, ra⟩ := rA.one
    have e := ra.int; subst e
    exact call_int1 pins s σ H _ us Q I r (.inl ⟨_, rfl, k _ _ _ (.same (.int _)) hf⟩)
  · obtain ⟨x, rfl, ra⟩ := rA.one
    have e := ra.bl; subst e
    exact call_int1 pins s σ H _ us Q I r (.inr ⟨_, rfl, k _ _ _ (.same (.int _)) hf⟩)
  · obtain ⟨x, rfl, ra⟩ := rA.one
    have e := ra.str; subst e
    obtain ⟨n, h1, h2, p⟩ := hf
    exact call_int_str pins s σ H _ us Q I r ⟨_, n, rfl, h1, h2, k _ _ _ (.same (.int _)) p⟩
  · obtain ⟨x, rfl, ra⟩ := rA.one
    have e := ra.bl; subst e
    exact call_bool1 pins s σ H _ us Q I r (.inr ⟨_, rfl, k _ _ _ (.same (.bl _)) hf⟩)
  · obtain ⟨x, rfl, ra⟩ := rA.one
    have e := ra.int; subst e
    exact call_str_int pins s σ H _ us Q I r ⟨_, rfl, hf.1, k _ _ _ (.same (.str _)) hf.2⟩
  · obtain ⟨x, y, rfl, ra, rb⟩ := rA.two
    have e := ra.int; subst e
    have e := rb.int; subst e
    exact call_min2 hc pins s σ H _ us Q I r ⟨_, _, rfl, k _ _ _ (.same (.int _)) hf⟩
  · obtain ⟨x, y, z, rfl, ra, rb, rc⟩ := rA.three
    have e := ra.int; subst e
    have e := rb.int; subst e
    have e := rc.int; subst e
    exact call_min3Nu hc pins s σ H _ us Q I r ⟨_, _, _, _, rfl, nuMin3_int, k _ _ _ (.same (.int _)) hf⟩
  · obtain ⟨x, y, rfl, ra, rb⟩ := rA.two
    have e := ra.int; subst e
    have e := rb.int; subst e
    exact call_max2 hc pins s σ H _ us Q I r ⟨_, _, rfl, k _ _ _ (.same (.int _)) hf⟩
  · obtain ⟨x, rfl, ra⟩ := rA.one
    obtain ⟨ns, rfl, hn, p⟩ := hf
    obtain ⟨q, ys, rfl, hb, r2⟩ := ra.lst l
    have e := r2.ints; subst e
    exact cr_min hc pins s σ H _ us Q I r ⟨q, ns, rfl, SqL.of hb, hn, fun m h1 h2 => k _ _ _ (.same (.int _)) (p m h1 h2)⟩
  · obtain ⟨x, rfl, ra⟩ := rA.one
    obtain ⟨q, ys, rfl, hb, r2⟩ := ra.lst l
    rcases hf with ⟨ns, rfl, hn, p⟩ | ⟨x, xs, h1, h2, h3, h4, p⟩
    case inr => exact blt_maxD hc hu I r l hb r2 h1 h2 h3 h4 p k
    have e := r2.ints; subst e
    exact cr_max hc pins s σ H _ us Q I r ⟨q, ns, rfl, SqL.of hb, hn, fun m h1 h2 => k _ _ _ (.same (.int _)) (p m h1 h2)⟩
  · obtain ⟨x, rfl, ra⟩ := rA.one
    obtain ⟨ns, rfl, p⟩ := hf
    obtain ⟨q, ys, rfl, hb, r2⟩ := ra.lst l
    have e := r2.ints; subst e
    exact cr_sum hc pins s σ H _ us Q I r ⟨q, ns, rfl, SqL.of hb, k _ _ _ (.same (.int _)) p⟩
  · obtain ⟨x, rfl, ra⟩ := rA.one
    obtain ⟨ns, rfl, p⟩ := hf
    obtain ⟨q, ys, rfl, hb, r2⟩ := ra.lst l
    have e := r2.bls; subst e
    exact cr_all hc pins s σ H _ us Q I r ⟨q, ns, rfl, SqL.of hb, k _ _ _ (.same (.bl _)) p⟩
  · obtain ⟨x, rfl, ra⟩ := rA.one
    obtain ⟨ns, rfl, p⟩ := hf
    obtain ⟨q, ys, rfl, hb, r2⟩ := ra.lst l
    have e := r2.bls; subst e
    exact cr_any hc pins s σ H _ us Q I r ⟨q, ns, rfl, SqL.of hb, k _ _ _ (.same (.bl _)) p⟩
  · obtain ⟨x, rfl, ra⟩ := rA.one
    obtain ⟨ds, e, p⟩ := hf
    unfold D.items at e
    split at e
    · cases e
      obtain ⟨q, ys, rfl, hb, _, r2⟩ := ra.tup l
      exact call_list_of pins s σ H _ us Q I r ⟨q, ys, rfl, .inr hb, fun t ht => k _ _ _ (.newL ht r2) p⟩
    · cases e
      obtain ⟨q, ys, rfl, hb, r2⟩ := ra.lst l
      exact call_list_of pins s σ H _ us Q I r ⟨q, ys, rfl, .inl (SqL.of hb), fun t ht => k _ _ _ (.newL ht r2) p⟩
    · cases e
      obtain ⟨q, ys, rfl, hb, r2⟩ := ra.lsq l
      exact call_list_of pins s σ H _ us Q I r ⟨q, ys, rfl, .inl hb, fun t ht => k _ _ _ (.newL ht r2) p⟩
    · cases e
  · obtain ⟨x, rfl, ra⟩ := rA.one
    obtain ⟨q, ys, rfl, hb, hb', r2⟩ := ra.tup l
    exact call_tuple_of pins s σ H _ us Q I r ⟨q, ys, rfl, .inr ⟨hb, k _ _ _ (.same (.tup hb' r2)) hf⟩⟩
  · obtain ⟨x, rfl, ra⟩ := rA.one
    obtain ⟨q, ys, rfl, hb, r2⟩ := ra.lst l
    exact call_tuple_of pins s σ H _ us Q I r ⟨q, ys, rfl, .inl ⟨SqL.of hb, fun t ht => k _ _ _ (.newT ht r2) hf⟩⟩
  · obtain ⟨x, rfl, ra⟩ := rA.one
    obtain ⟨q, ys, rfl, hb, r2⟩ := ra.lsq l
    exact call_tuple_of pins s σ H _ us Q I r ⟨q, ys, rfl, .inl ⟨hb, fun t ht => k _ _ _ (.newT ht r2) hf⟩⟩
  · obtain ⟨x, rfl, ra⟩ := rA.one
    obtain ⟨p, h1, h2, h3, h4, h5, q⟩ := hf
    exact blt_repr hgd hu I r l ra h1 h2 h3 h4 h5 q k
  · exact hf.elim
end
end PL
set_option Elab.async false
set_option linter.all false
set_option maxRecDepth 100000
set_option maxHeartbeats 4000000
/-! PL3: readings over slots of plain data (p..), and the rules that tie them to the kit's readings. -/
namespace PL
open PySem PySem.Spec PyProof.Rows L2

abbrev pE := PEnv → (Sv → PEnv → Prop) → Prop
abbrev pV := PEnv → (D → PEnv → Prop) → Prop
abbrev pT := PEnv → (Bool → PEnv → Prop) → Prop
abbrev pA := PEnv → (List D → PEnv → Prop) → Prop
structure pEnds where
  nx : PEnv → Prop
  rt : Sv → PEnv → Prop
  bk : PEnv → Prop
  ct : PEnv → Prop
abbrev pS := pEnds → PEnv → Prop
abbrev pG := Sv → PEnv → (PEnv → Prop) → Prop
abbrev pGs := List D → PEnv → (PEnv → Prop) → Prop
abbrev XC := Exn → PEnv → Prop
abbrev PSp := Option M → List D → (Sv → Option M → Prop) → (Exn → Option M → Prop) → Prop

/-! ### the readings -/
def pBad : pE := fun _ _ => False
def pC (d : D) : pE := fun e P => P (.val d) e
def pVar (i : Nat) : pE := fun e P => match e[i]? with
  | some (some (.val d)) => P (.val d) e
  | some (some (.own m)) => P (.val m.fz) (e.set i (some (.val m.fz)))
  | some (some (.exn x)) => P (.exn x) e
  | _ => False
/-- the content is handed on (return x) -/
def pMove (i : Nat) : pE := fun e P => match e[i]? with
  | some (some (.val d)) => P (.val d) e
  | some (some (.own m)) => P (.own m) (e.set i none)
  | _ => False
/-- the content is looked at (instances are read by their fields) -/
def pPk (i : Nat) : pV := fun e P => match e[i]? with
  | some (some (.val d)) => P d e
  | some (some (.own (.lst ds))) => P (.lst ds) e
  | some (some (.bor (.lst ds))) => P (.lst ds) e
  | _ => False
def pF (p : pE) : pV := fun e P => p e fun sv e1 => match sv.fz with
  | some d => P d e1
  | none => False
def pOp (f : F2) (a : pE) (b : pV) : pE := fun e P => pF a e fun x e1 => b e1 fun y e2 => f x y fun z => P z e2
def pUn (f : D → (Sv → Prop) → Prop) (a : pE) : pE := fun e P => pF a e fun x e1 => f x fun z => P z e1
def pIsN (neg : Bool) (a : pV) : pE := fun e P => a e fun x e1 => P (.val (.bl (if neg then !x.isNon else x.isNon))) e1
def pChain (f g : F2) (a b : pE) (c : pV) : pE := fun e P => pF a e fun x e1 => pF b e1 fun y e2 => f x y fun z => match z with
  | .val (.bl true) => c e2 fun w e3 => g y w fun z => P z e3
  | .val (.bl false) => P (.val (.bl false)) e2
  | _ => False
def pB (p : pE) : pT := fun e P => p e fun sv e1 => match sv with
  | .val (.bl b) => P b e1
  | _ => False
def pAndV (a b : pE) : pE := fun e P => pB a e fun k e1 => if k = true then b e1 P else P (.val (.bl false)) e1
def pOrV (a b : pE) : pE := fun e P => pB a e fun k e1 => if k = true then P (.val (.bl true)) e1 else b e1 P
def pNotV (a : pE) : pE := fun e P => pB a e fun k e1 => P (.val (.bl (!k))) e1
def pAndT (a b : pT) : pT := fun e P => a e fun k e1 => if k = true then b e1 P else P false e1
def pOrT (a b : pT) : pT := fun e P => a e fun k e1 => if k = true then P true e1 else b e1 P
def pNotT (a : pT) : pT := fun e P => a e fun k e1 => P (!k) e1
def pIf (t : pT) (a b : pE) : pE := fun e P => t e fun k e1 => if k = true then a e1 P else b e1 P
def pNil : pA := fun e P => P [] e
def pCons (a : pE) (r : pA) : pA := fun e P => pF a e fun d e1 => r e1 fun ds e2 => P (d :: ds) e2
/-- the last argument only looked at -/
def pLast (a : pV) : pA := fun e P => a e fun d e1 => P [d] e1
def pTup (a : pA) : pE := fun e P => a e fun ds e1 => ds.length ≤ sizeLine ∧ P (.val (.tup ds)) e1
def pLst (a : pA) : pE := fun e P => a e fun ds e1 => ds.length ≤ sizeLine ∧ P (.own (.lst ds)) e1
def pBlt (b : Blt) (a : pA) : pE := fun e P => a e fun ds e1 => bltB b ds fun z => P z e1
/-- x[..], x a name -/
def pIxN (i : Nat) (b : pV) : pE := fun e P => (∃ sv, e[i]? = some (some sv)) ∧ b e fun k e1 => pPk i e1 fun d e2 => itemB d k fun z => P z e2
def pPart (p : Option pE) : PEnv → (Option Int → PEnv → Prop) → Prop := match p with
  | none => fun e P => P none e
  | some p => fun e P => p e fun sv e1 => match sv with
    | .val (.int i) => P (some i) e1
    | _ => False
def pSl (a : pE) (lo hi : Option pE) : pE := fun e P => pF a e fun x e1 => pPart lo e1 fun l e2 => pPart hi e2 fun h e3 => sliceB x l h fun z => P z e3
def pSlN (i : Nat) (lo hi : Option pE) : pE := fun e P => (∃ sv, e[i]? = some (some sv)) ∧ pPart lo e fun l e2 => pPart hi e2 fun h e3 => pPk i e3 fun x e4 => sliceB x l h fun z => P z e4
/-- the class of a value, as isinstance asks it -/
def tyName : D → Option String
  | .non => some "NoneType" | .bl _ => some "bool" | .int _ => some "int" | .str _ => some "str" | .tup _ => some "tuple" | .lst _ => some "list" | _ => none
def pIsi (T : String) (a : pV) : pE := fun e P => a e fun d e1 => ∃ n b, tyName d = some n ∧ kitB n T = some b ∧ P (.val (.bl b)) e1
def getF (fs : List (Str × D)) (f : Str) (P : Sv → Prop) : Prop := ∃ d, fs.lookup f = some d ∧ P (.val d)
/-- x.append(e), x.pop(), .. on a list that the slot holds -/
def heldL : Sv → Option (List D)
  | .own (.lst ds) => some ds
  | .bor (.lst ds) => some ds
  | _ => none
def pAppend (i : Nat) (a : pE) : pE := fun e P => (∃ sv, e[i]? = some (some sv) ∧ (heldL sv).isSome = true) ∧ pF a e fun d e1 => ∃ sv ds, e1[i]? = some (some sv) ∧ heldL sv = some ds ∧ ds.length < sizeLine ∧ P (.val .non) (e1.set i (some (reHold sv (.lst (ds ++ [d])))))
def pPop (i : Nat) : pE := fun e P => ∃ sv ds d, e[i]? = some (some sv) ∧ heldL sv = some ds ∧ ds[ds.length - 1]? = some d ∧ P (.val d) (e.set i (some (reHold sv (.lst ds.dropLast))))
def pPopAt (i : Nat) (a : pE) : pE := fun e P => (∃ sv, e[i]? = some (some sv) ∧ (heldL sv).isSome = true) ∧ pF a e fun x e1 => ∃ sv ds j k d, e1[i]? = some (some sv) ∧ heldL sv = some ds ∧ x = .int j ∧ (-(2 ^ 63) ≤ j ∧ j < 2 ^ 63) ∧ seqIndex? j ds.length = some k ∧ ds[k]? = some d ∧ P (.val d) (e1.set i (some (reHold sv (.lst (ds.eraseIdx k)))))

def gP (i : Nat) : pG := fun sv e P => (∀ m, e[i]? ≠ some (some (.bor m))) ∧ P (e.set i (some sv))
def gsNil : pGs := fun ds e P => ds = [] ∧ P e
def gsCons (g : pG) (h : pGs) : pGs := fun ds e P => match ds with
  | d :: r => g (.val d) e fun e1 => h r e1 P
  | [] => False
def gTL (n : Nat) (g : pGs) : pG := fun sv e P => ∃ d ds, sv.fz = some d ∧ d.items = some ds ∧ ds.length = n ∧ g ds e P
/-- x[i] = v -/
def gIx (i : Nat) (b : pE) : pG := fun sv e P => ∃ d, sv.fz = some d ∧ (∃ sv, e[i]? = some (some sv) ∧ (heldL sv).isSome = true) ∧ pF b e fun k e1 => ∃ s ds z j, e1[i]? = some (some s) ∧ heldL s = some ds ∧ k = .int z ∧ ixN ds.length z = some j ∧ P (e1.set i (some (reHold s (.lst (ds.set j d)))))

abbrev pI := PEnv → (List D → PEnv → Prop) → Prop
def iVal (a : pE) : pI := fun e P => pF a e fun d e1 => match d with
  | .tup ds => P ds e1
  | .lst ds => P ds e1
  | .lsq ds => P ds e1
  | .str z => P (z.cps.toList.map fun c => .str ⟨#[c]⟩) e1
  | _ => False
def rangeD (lo : Int) (n : Nat) : List D := (List.range n).map fun (i : Nat) => .int (lo + i)
def iRange1 (a : pE) : pI := fun e P => pF a e fun d e1 => ∃ j, d = .int j ∧ (-(2 ^ 62) ≤ j ∧ j < 2 ^ 62) ∧ P (rangeD 0 j.toNat) e1
def iRange2 (a b : pE) : pI := fun e P => pF a e fun d e1 => pF b e1 fun d2 e2 => ∃ i j, d = .int i ∧ d2 = .int j ∧ (-(2 ^ 62) ≤ i ∧ i < 2 ^ 62 ∧ -(2 ^ 62) ≤ j ∧ j < 2 ^ 62) ∧ P (rangeD i (j - i).toNat) e2
/-- enumerate, zip -/
def enumD (ds : List D) : List D := (List.range ds.length).map fun (i : Nat) => .tup [.int (i : Nat), ds.getD i .non]
def iEnumP (a : pE) : pI := fun e P => pF a e fun d e1 => ∃ ds, d.items = some ds ∧ P (enumD ds) e1
def zipD (as bs : List D) : List D := List.zipWith (fun x y => .tup [x, y]) as bs
def iZipP (a b : pE) : pI := fun e P => pF a e fun d e1 => pF b e1 fun d2 e2 => ∃ as bs, ((d = .lst as ∧ d2 = .lst bs) ∨ (d = .tup as ∧ d2 = .tup bs)) ∧ P (zipD as bs) e2

def forL (g : pG) (b : pS) : List D → pS
  | [] => fun Q e => Q.nx e
  | d :: r => fun Q e => g (.val d) e fun e1 => b { nx := forL g b r Q, rt := Q.rt, bk := Q.nx, ct := forL g b r Q } e1
def pFor (it : pI) (g : pG) (b : pS) : pS := fun Q e => it e fun ds e1 => forL g b ds Q e1
def pWhile (t : pT) (b : pS) : pS := fun Q e => ∃ W : Nat → PEnv → Prop, (∃ m, W m e) ∧ ∀ m e, W m e → t e fun k e1 => if k = true then ∃ N : PEnv → Prop, (∀ e2, N e2 → ∃ m', m' < m ∧ W m' e2) ∧ b { nx := N, rt := Q.rt, bk := Q.nx, ct := N } e1 else Q.nx e1
def wipeP (e : PEnv) : List Nat → PEnv
  | [] => e
  | v :: vs => (wipeP e vs).set v none
def lcL (g : pG) (t : pT) (p : pE) (own : List Nat) : List D → List D → PEnv → (List D → PEnv → Prop) → Prop
  | [], acc, e, P => P acc e
  | d :: r, acc, e, P => g (.val d) (wipeP e own) fun e1 => t e1 fun k e2 => if k = true then pF p e2 fun x e3 => acc.length < sizeLine ∧ lcL g t p own r (acc ++ [x]) e3 P else lcL g t p own r acc e2 P
def pYes : pT := fun e P => P true e
def pLc (it : pI) (g : pG) (t : pT) (p : pE) (own : List Nat) : pE := fun e P => it e fun ds e1 => lcL g t p own ds [] e1 fun acc e2 => P (.own (.lst acc)) (wipeP e2 own)

def sNext : pS := fun Q e => Q.nx e
def sSeq (a b : pS) : pS := fun Q e => a { Q with nx := b Q } e
def sDrop (p : pE) : pS := fun Q e => p e fun _ e1 => Q.nx e1
def sRet (p : pE) : pS := fun Q e => p e Q.rt
def sIf (t : pT) (a b : pS) : pS := fun Q e => t e fun k e1 => if k = true then a Q e1 else b Q e1
def sAsg (p : pE) (g : pG) : pS := fun Q e => p e fun sv e1 => g sv e1 Q.nx
def sPar (i j : Nat) (a : pA) : pS := fun Q e => a e fun ds e1 => match ds with
  | [x, y] => gP i (.val x) e1 fun e2 => gP j (.val y) e2 Q.nx
  | _ => False
def sBreak : pS := fun Q e => Q.bk e
def sCont : pS := fun Q e => Q.ct e
/-- x[i] += k -/
def sAugIx (i : Nat) (b : pE) (p : pE) : pS := fun Q e => (∃ sv, e[i]? = some (some sv) ∧ (heldL sv).isSome = true) ∧ pF b e fun k e1 => ∃ z s ds a, k = .int z ∧ 0 ≤ z ∧ e1[i]? = some (some s) ∧ heldL s = some ds ∧ atI ds z = some (.int a) ∧
  pF p e1 fun y e2 => ∃ c s ds j, y = .int c ∧ e2[i]? = some (some s) ∧ heldL s = some ds ∧ ixN ds.length z = some j ∧ Q.nx (e2.set i (some (reHold s (.lst (ds.set j (.int (a + c)))))))

/-! ### the kit's readings that these are -/
def canE (C : Cfg) (p : pE) : TE := fun σ H Q => ∃ ts vs e P, Rep C ts vs e σ H ∧ p e P ∧ ∀ sv e' v H', Rep C (sv :: ts) (v :: vs) e' σ H' → P sv e' → Q v H'
def canP (C : Cfg) (p : pV) : TE := fun σ H Q => ∃ ts vs e P, Rep C ts vs e σ H ∧ p e P ∧ ∀ S d e' v H', RepAt C S ts vs e' σ H' → Ra C.K C.mg S H' d v → P d e' → Q v H'
def canT (C : Cfg) (p : pT) : TT := fun σ H Q => ∃ ts vs e P, Rep C ts vs e σ H ∧ p e P ∧ ∀ k e' H', Rep C ts vs e' σ H' → P k e' → Q k H'
def canL (C : Cfg) (p : pA) : TA := fun σ H Q => ∃ ts vs e P, Rep C ts vs e σ H ∧ p e P ∧ ∀ S ds e' ws H', RepAt C S ts vs e' σ H' → RaL C.K C.mg S H' ds ws → P ds e' → Q ws H'
/-- arguments that may be kept -/
def canK (C : Cfg) (p : pA) : TA := fun σ H Q => ∃ ts vs e P, Rep C ts vs e σ H ∧ p e P ∧ ∀ S ds e' ws H', RepAt C S ts vs e' σ H' → RpL C.K C.mg S ds ws → P ds e' → Q ws H'
def canO (C : Cfg) (p : PEnv → (Option Int → PEnv → Prop) → Prop) : TO := fun σ H Q => ∃ ts vs e P, Rep C ts vs e σ H ∧ p e P ∧ ∀ k e' H', Rep C ts vs e' σ H' → P k e' → Q k H'
/-- ρ: how the slots behind a store lie to those ahead of it -/
def canG (C : Cfg) (ρ : L2.St → L2.St → Prop) (g : pG) : TG := fun v σ H Q => ∃ sv ts vs e P, Rep C (sv :: ts) (v :: vs) e σ H ∧ g sv e P ∧ ∀ e' σ' H', Rep C ts vs e' σ' H' → ρ σ σ' → P e' → Q σ' H'
def canGs (C : Cfg) (ρ : L2.St → L2.St → Prop) (g : pGs) : TGs := fun ws σ H Q => ∃ ds ts vs e P, ws.length = ds.length ∧ Rep C (ds.map .val ++ ts) (ws ++ vs) e σ H ∧ g ds e P ∧ ∀ e' σ' H', Rep C ts vs e' σ' H' → ρ σ σ' → P e' → Q σ' H'
def anySt : L2.St → L2.St → Prop := fun _ _ => True
structure RhoOk (ρ : L2.St → L2.St → Prop) : Prop where
  refl : ∀ σ, ρ σ σ
  trans : ∀ {σ τ υ}, ρ σ τ → ρ τ υ → ρ σ υ
theorem anySt_ok : RhoOk anySt := ⟨fun _ => trivial, fun _ _ => trivial⟩
theorem wipe_ok (own : List Nat) : RhoOk (fun σ τ => L2.wipe τ own = L2.wipe σ own) := ⟨fun _ => rfl, fun h1 h2 => h2.trans h1⟩
def canS (C : Cfg) (p : pS) : TS := fun Dn σ H => ∃ ts vs e Q, Rep C ts vs e σ H ∧ p Q e ∧ (∀ e' σ' H', Rep C ts vs e' σ' H' → Q.nx e' → Dn.nx σ' H') ∧ (∀ sv e' v σ' H', Rep C (sv :: ts) (v :: vs) e' σ' H' → Q.rt sv e' → Dn.rt v H') ∧
  (∀ e' σ' H', Rep C ts vs e' σ' H' → Q.bk e' → Dn.bk σ' H') ∧ (∀ e' σ' H', Rep C ts vs e' σ' H' → Q.ct e' → Dn.ct σ' H')
/-- what a for walks: the data, under what the temporaries keep -/
structure Wk (C : Cfg) (J : It) (ds : List D) (kts : List Sv) (kvs : List V) : Prop where
  len : kts.length = kvs.length
  go : ∀ {S ts vs e σ H} (i : Nat), RepAt C S (kts ++ ts) (kvs ++ vs) e σ H → i < ds.length → J.go i H
  stop : ∀ {S ts vs e σ H}, RepAt C S (kts ++ ts) (kvs ++ vs) e σ H → J.stop ds.length H
  yld : ∀ {S ts vs e σ H} (i : Nat) x H' d, RepAt C S (kts ++ ts) (kvs ++ vs) e σ H → J.yld i H x H' → ds[i]? = some d → Res C.K C.mg S H (.val d) x H'
def canI (C : Cfg) (p : pI) : TI := fun σ H R => ∃ ts vs e P, Rep C ts vs e σ H ∧ p e P ∧ ∀ J ds kts kvs e' H', Rep C (kts ++ ts) (kvs ++ vs) e' σ H' → Wk C J ds kts kvs → P ds e' → R J H'

section
variable {X : Cx} {C : Cfg} {a b c ex : Expr} {pos : Pos} {pa pb pc p : pE} {q : pV}
theorem _root_.L2.PE.up {t t' : TE} (h : PE X a t) (f : ∀ σ H Q, t' σ H Q → t σ H Q) : PE X a t' := ⟨fun pins s σ H Q I w => h.run pins s σ H Q I (f _ _ _ w)⟩
theorem _root_.L2.PT.up {t t' : TT} (h : PT X a t) (f : ∀ σ H Q, t' σ H Q → t σ H Q) : PT X a t' := ⟨fun pins s σ H Q I w => h.run pins s σ H Q I (f _ _ _ w)⟩
theorem _root_.L2.PA.up {es : List Expr} {t t' : TA} (h : PA X es t) (f : ∀ σ H Q, t' σ H Q → t σ H Q) : PA X es t' := ⟨fun pos pins s σ H Q I w => h.run pos pins s σ H Q I (f _ _ _ w)⟩
theorem _root_.L2.PS.up {st : Stmt} {t t' : TS} (h : PS X st t) (f : ∀ Dn σ H, t' Dn σ H → t Dn σ H) : PS X st t' := ⟨fun pins s σ H Dn I w => h.run pins s σ H Dn I (f _ _ _ w)⟩
theorem _root_.L2.PSs.up {st : List Stmt} {t t' : TS} (h : PSs X st t) (f : ∀ Dn σ H, t' Dn σ H → t Dn σ H) : PSs X st t' := ⟨fun pins s σ H Dn I w => h.run pins s σ H Dn I (f _ _ _ w)⟩
theorem _root_.L2.PG.up {t t' : TG} (h : PG X a t) (f : ∀ v σ H Q, t' v σ H Q → t v σ H Q) : PG X a t' := ⟨fun pins s σ H v u Q I r w => h.run pins s σ H v u Q I r (f _ _ _ _ w)⟩
theorem _root_.L2.PGs.up {es : List Expr} {t t' : TGs} (h : PGs X es t) (f : ∀ v σ H Q, t' v σ H Q → t v σ H Q) : PGs X es t' := ⟨fun pins s σ H v u Q I r w => h.run pins s σ H v u Q I r (f _ _ _ _ w)⟩
theorem _root_.L2.PI.up {tg : Expr} {t t' : TI} (h : PI X tg a t) (f : ∀ σ H R, t' σ H R → t σ H R) : PI X tg a t' := ⟨fun pins s σ H R I w => h.run pins s σ H R I (f _ _ _ w)⟩
theorem _root_.L2.PO.up {o : Option Expr} {t t' : TO} (h : PO X o t) (f : ∀ σ H Q, t' σ H Q → t σ H Q) : PO X o t' := ⟨fun pins s σ H Q I w => h.run pins s σ H Q I (f _ _ _ w)⟩
theorem _root_.L2.PTs.up {es : List Expr} {t t' : TT} (h : PTs X es t) (f : ∀ σ H Q, t' σ H Q → t σ H Q) : PTs X es t' := ⟨fun pins s σ H Q I w => h.run pins s σ H Q I (f _ _ _ w)⟩

/-- using a reading -/
theorem useE {σ : L2.St} {H : Hp} {Q : VK} {ts : List Sv} {vs : List V} {e : PEnv} {P : Sv → PEnv → Prop} (R : Rep C ts vs e σ H) (h : p e P) (k : ∀ sv e' v H', Rep C (sv :: ts) (v :: vs) e' σ H' → P sv e' → Q v H') : canE C p σ H Q := ⟨ts, vs, e, P, R, h, k⟩
theorem useF {σ : L2.St} {H : Hp} {Q : VK} {ts : List Sv} {vs : List V} {e : PEnv} {P : D → PEnv → Prop} (R : Rep C ts vs e σ H) (h : pF p e P) (k : ∀ d e' v H', Rep C (.val d :: ts) (v :: vs) e' σ H' → P d e' → Q v H') : canE C p σ H Q :=
  ⟨ts, vs, e, _, R, h, fun sv e' v H' R' h' => by
    split at h'
    · rename_i d q
      exact k d e' v H' (R'.fz q) h'
    · exact h'.elim⟩
theorem useP {σ : L2.St} {H : Hp} {Q : VK} {ts : List Sv} {vs : List V} {e : PEnv} {P : D → PEnv → Prop} (R : Rep C ts vs e σ H) (h : q e P) (k : ∀ S d e' v H', RepAt C S ts vs e' σ H' → Ra C.K C.mg S H' d v → P d e' → Q v H') : canP C q σ H Q := ⟨ts, vs, e, P, R, h, k⟩

theorem me_c {t : TE} {d : D} {v : V} (h : PE X a (tC v)) (r : ∀ S, Rp C.K C.mg S d v) : PE X a (canE C (pC d)) := h.up fun σ H Q ⟨ts, vs, e, P, ⟨S, R⟩, h, k⟩ => k _ e v H ⟨S, R.pushV (r S)⟩ h
theorem me_var {i : Nat} (h : PE X a (tVar i)) : PE X a (canE C (pVar i)) := h.up fun σ H Q ⟨ts, vs, e, P, ⟨S, R⟩, h, k⟩ => by
  unfold pVar at h
  split at h
  · rename_i d q
    obtain ⟨v, h1, R'⟩ := R.slotV q
    exact ⟨v, h1, k _ e v H ⟨S, R'⟩ h⟩
  · rename_i m q
    obtain ⟨S', v, h1, R'⟩ := R.slotF q
    exact ⟨v, h1, k _ _ v H ⟨S', R'⟩ h⟩
  · rename_i x q
    obtain ⟨v, h1, h2⟩ := R.slot i _ q
    exact ⟨v, h1, k _ e v H ⟨S, R.push h2 fun a => by rw [own1_exn, Nat.zero_add]; exact R.dist a⟩ h⟩
  · exact h.elim
theorem me_move {i : Nat} (h : PE X a (tVar i)) : PE X a (canE C (pMove i)) := h.up fun σ H Q ⟨ts, vs, e, P, ⟨S, R⟩, h, k⟩ => by
  unfold pMove at h
  split at h
  · rename_i d q
    obtain ⟨v, h1, R'⟩ := R.slotV q
    exact ⟨v, h1, k _ e v H ⟨S, R'⟩ h⟩
  · rename_i m q
    obtain ⟨v, h1, R'⟩ := R.slotM q
    exact ⟨v, h1, k _ _ v H ⟨S, R'⟩ h⟩
  · exact h.elim
/-- what a slot holds, looked at -/
theorem RepAt.look {S : Hp} {ts : List Sv} {vs : List V} {e : PEnv} {σ : L2.St} {H : Hp} {i : Nat} {m : M} {sv : Sv} (R : RepAt C S ts vs e σ H) (q : e[i]? = some (some sv)) (hm : isHeld sv m) (hl : ∃ ds, m = .lst ds) : ∃ v, σ[i]? = some (some v) ∧ Ra C.K C.mg S H m.fz v := by
  obtain ⟨a, h1, h2, _⟩ := R.change q hm
  obtain ⟨ds, rfl⟩ := hl
  obtain ⟨xs, h3, h4⟩ := h2
  exact ⟨_, h1, .inr ⟨ds, a, xs, rfl, rfl, h3, h4⟩⟩
theorem mp_pk {i : Nat} (h : PE X a (tVar i)) : PE X a (canP C (pPk i)) := h.up fun σ H Q ⟨ts, vs, e, P, ⟨S, R⟩, h, k⟩ => by
  unfold pPk at h
  split at h
  · rename_i d q
    obtain ⟨v, h1, h2⟩ := R.slot i _ q
    exact ⟨v, h1, k S d e v H R (.inl h2) h⟩
  · rename_i m q
    obtain ⟨v, h1, h2⟩ := R.look (m := .lst m) q rfl ⟨_, rfl⟩
    exact ⟨v, h1, k S _ e v H R h2 h⟩
  · rename_i m q
    obtain ⟨v, h1, h2⟩ := R.look (m := .lst m) q rfl ⟨_, rfl⟩
    exact ⟨v, h1, k S _ e v H R h2 h⟩
  · exact h.elim
theorem mp_of (h : PE X a (canE C p)) : PE X a (canP C (pF p)) := h.up fun σ H Q ⟨ts, vs, e, P, R, h, k⟩ => useF R h fun d e' v H' ⟨S, R'⟩ h' => k S d e' v H' R'.pop (.inl R'.topV) h'
theorem Rep.res {S H H' : Hp} {ts : List Sv} {vs : List V} {e : PEnv} {σ : L2.St} {z : Sv} {v : V} (h : RepAt C S ts vs e σ H) (r : Res C.K C.mg S H z v H') : Rep C (z :: ts) (v :: vs) e σ H' := h.res r
theorem me_op {f : F2} {op : R2} (hr : op = can2 C.K C.mg f) (h : ∀ ta tb, PE X a ta → PE X b tb → PE X ex (tOp op ta tb)) (ha : PE X a (canE C pa)) (hb : PE X b (canP C q)) : PE X ex (canE C (pOp f pa q)) :=
  (h _ _ ha hb).up fun σ H Q ⟨ts, vs, e, P, R, h, k⟩ => useF R h fun x e1 v H1 R1 h1 => useP R1 h1 fun S y e2 w H2 R2 ry h2 => by
    rw [hr]
    exact ⟨S, x, y, _, R2.sub, .inl R2.topV, ry, h2, fun z v' H' res hz => k z e2 v' H' (Rep.res R2.pop res) hz⟩
theorem me_un {f : D → (Sv → Prop) → Prop} {t : V → Hp → VK → Prop} (hr : t = canU C.K C.mg f) (h : ∀ ta, PE X a ta → PE X ex (tUn t ta)) (ha : PE X a (canE C pa)) : PE X ex (canE C (pUn f pa)) :=
  (h _ ha).up fun σ H Q ⟨ts, vs, e, P, R, h, k⟩ => useF R h fun x e1 v H1 ⟨S, R1⟩ h1 => by
    rw [hr]
    exact ⟨S, x, _, R1.sub, .inl R1.topV, h1, fun z v' H' res hz => k z e1 v' H' (Rep.res R1.pop res) hz⟩
theorem me_isN (ha : PE X a (canP C q)) {j pos'} : PE X (.Compare a [.Is] [.Constant .none j pos'] pos) (canE C (pIsN false q)) :=
  (pe_cmp (pc_isN ha)).up fun σ H Q ⟨ts, vs, e, P, R, h, k⟩ => useP R h fun S x e1 v H1 R1 rx h1 => by
    rw [rx.isNon]
    exact k _ e1 _ H1 ⟨S, R1.pushV (.bl _)⟩ h1
theorem me_notN (ha : PE X a (canP C q)) {j pos'} : PE X (.Compare a [.IsNot] [.Constant .none j pos'] pos) (canE C (pIsN true q)) :=
  (pe_cmp (pc_notN ha)).up fun σ H Q ⟨ts, vs, e, P, R, h, k⟩ => useP R h fun S x e1 v H1 R1 rx h1 => by
    rw [rx.isNon]
    exact k _ e1 _ H1 ⟨S, R1.pushV (.bl _)⟩ h1
theorem useB {σ : L2.St} {H : Hp} {Q : VK} {ts : List Sv} {vs : List V} {e : PEnv} {P : Bool → PEnv → Prop} (R : Rep C ts vs e σ H) (h : pB p e P) (k : ∀ b e' H', Rep C ts vs e' σ H' → P b e' → Q (.bl b) H') : canE C p σ H Q :=
  ⟨ts, vs, e, _, R, h, fun sv e' v H' ⟨S, R'⟩ h' => by
    split at h'
    · have r := R'.topV
      cases r
      exact k _ e' H' ⟨S, R'.pop⟩ h'
    · exact h'.elim⟩
theorem me_andV {t : pE} (h : ∀ ta tb, PE X a ta → PE X b tb → PE X ex (tAndV ta tb)) (ha : PE X a (canE C pa)) (hb : PE X b (canE C pb)) : PE X ex (canE C (pAndV pa pb)) :=
  (h _ _ ha hb).up fun σ H Q ⟨ts, vs, e, P, R, h, k⟩ => useB R h fun b e1 H1 R1 h1 => ⟨b, rfl, by
    cases b
    · obtain ⟨S, R1⟩ := R1
      exact k _ e1 _ H1 ⟨S, R1.pushV (.bl _)⟩ h1
    · exact useE R1 h1 k⟩
theorem me_orV {t : pE} (h : ∀ ta tb, PE X a ta → PE X b tb → PE X ex (tOrV ta tb)) (ha : PE X a (canE C pa)) (hb : PE X b (canE C pb)) : PE X ex (canE C (pOrV pa pb)) :=
  (h _ _ ha hb).up fun σ H Q ⟨ts, vs, e, P, R, h, k⟩ => useB R h fun b e1 H1 R1 h1 => ⟨b, rfl, by
    cases b
    · exact useE R1 h1 k
    · obtain ⟨S, R1⟩ := R1
      exact k _ e1 _ H1 ⟨S, R1.pushV (.bl _)⟩ h1⟩
theorem me_notV (ha : PE X a (canE C pa)) : PE X (.UnaryOp .Not a pos) (canE C (pNotV pa)) :=
  (pe_not ha).up fun σ H Q ⟨ts, vs, e, P, R, h, k⟩ => useB R h fun b e1 H1 ⟨S, R1⟩ h1 => ⟨b, rfl, k _ e1 _ H1 ⟨S, R1.pushV (.bl _)⟩ h1⟩
theorem useT {pt : pT} {σ : L2.St} {H : Hp} {Q : Bool → Hp → Prop} {ts : List Sv} {vs : List V} {e : PEnv} {P : Bool → PEnv → Prop} (R : Rep C ts vs e σ H) (h : pt e P) (k : ∀ b e' H', Rep C ts vs e' σ H' → P b e' → Q b H') : canT C pt σ H Q := ⟨ts, vs, e, P, R, h, k⟩
theorem mt_of (h : ∀ t, PE X a t → PT X a (tB t)) (ha : PE X a (canE C pa)) : PT X a (canT C (pB pa)) :=
  (h _ ha).up fun σ H Q ⟨ts, vs, e, P, R, h, k⟩ => useB R h fun b e1 H1 R1 h1 => ⟨b, rfl, k b e1 H1 R1 h1⟩
theorem mt_not {pt : pT} (ha : PT X a (canT C pt)) : PT X (.UnaryOp .Not a pos) (canT C (pNotT pt)) :=
  (pt_not ha).up fun σ H Q ⟨ts, vs, e, P, R, h, k⟩ => useT R h fun b e1 H1 R1 h1 => k _ e1 H1 R1 h1
theorem _root_.L2.PW.up {t t' : TT} (h : PW X a t) (f : ∀ σ H Q, t' σ H Q → t σ H Q) : PW X a t' := ⟨fun w pins s σ H Q I x => h.run w pins s σ H Q I (f _ _ _ x)⟩
theorem mw_and {pt pu : pT} {rest : List Expr} (ha : PT X a (canT C pt)) (hb : PW X (.BoolOp .And (b :: rest) pos) (canT C pu)) : PW X (.BoolOp .And (a :: b :: rest) pos) (canT C (pAndT pt pu)) :=
  (pw_and ha hb).up fun σ H Q ⟨ts, vs, e, P, R, h, k⟩ => useT R h fun b e1 H1 R1 h1 => by
    cases b
    · exact k _ e1 H1 R1 h1
    · exact useT R1 h1 k
theorem mw_or {pt pu : pT} {rest : List Expr} (ha : PT X a (canT C pt)) (hb : PW X (.BoolOp .Or (b :: rest) pos) (canT C pu)) : PW X (.BoolOp .Or (a :: b :: rest) pos) (canT C (pOrT pt pu)) :=
  (pw_or ha hb).up fun σ H Q ⟨ts, vs, e, P, R, h, k⟩ => useT R h fun b e1 H1 R1 h1 => by
    cases b
    · exact useT R1 h1 k
    · exact k _ e1 H1 R1 h1
theorem me_if {pt : pT} (hc : PT X c (canT C pt)) (ha : PE X a (canE C pa)) (hb : PE X b (canE C pb)) : PE X (.IfExp c a b pos) (canE C (pIf pt pa pb)) :=
  (pe_ifExp hc ha hb).up fun σ H Q ⟨ts, vs, e, P, R, h, k⟩ => useT R h fun b e1 H1 R1 h1 => by
    cases b
    · exact useE R1 h1 k
    · exact useE R1 h1 k
theorem me_chain {f g : F2} {r r' : R2} (hr : r = can2 C.K C.mg f) (hr' : r' = can2 C.K C.mg g) (h : ∀ ta tb tc, PE X a ta → PE X b tb → PE X c tc → PE X ex (tChain r r' ta tb tc)) (ha : PE X a (canE C pa)) (hb : PE X b (canE C pb)) (hc : PE X c (canP C q)) : PE X ex (canE C (pChain f g pa pb q)) :=
  (h _ _ _ ha hb hc).up fun σ H Q ⟨ts, vs, e, P, R, h, k⟩ => useF R h fun x e1 v H1 R1 h1 => useF R1 h1 fun y e2 w H2 ⟨S, R2⟩ h2 => by
    rw [hr, hr']
    refine ⟨S, x, y, _, R2.sub, .inl R2.pop.topV, .inl R2.topV, h2, fun z v' H' res hz => ?_⟩
    split at hz
    · obtain ⟨S', R3⟩ := R2.res res
      have t := R3.topV
      cases t
      refine ⟨true, rfl, iteT ?_⟩
      refine useP ⟨S', R3.pop⟩ hz fun S4 d e4 w4 H4 R4 r4 h4 => ?_
      exact ⟨S4, y, d, _, R4.sub, .inl R4.topV, r4, h4, fun z v' H' res hz => k z e4 v' H' (Rep.res R4.pop.pop res) hz⟩
    · obtain ⟨S', R3⟩ := R2.res res
      have t := R3.topV
      cases t
      exact ⟨false, rfl, iteF (k _ e2 _ _ ⟨S', R3.pop.pop.pop.pushV (.bl _)⟩ hz)⟩
    · exact hz.elim

/-! ### arguments, displays -/
def notStar : Expr → Bool
  | .Starred _ _ => false
  | _ => true
theorem star_cons {e : Expr} {es : List Expr} {env : Env} (h : notStar e = true) : starEach (e :: es) env = (false, eval e env) :: starEach es env := by
  cases e <;> first | rfl | cases h
theorem star_any {pos : Pos} {env : Env} : ∀ {es : List Expr}, es.all notStar = true → (backTo pos (starEach es env)).any (·.1) = false
  | [], _ => rfl
  | e :: es, h => by
    rw [List.all_cons, Bool.and_eq_true] at h
    rw [star_cons h.1]
    show (false || (backTo pos (starEach es env)).any (·.1)) = false
    rw [star_any h.2]; rfl
theorem mk_nil : PA X [] (canK C pNil) := pa_nil.up fun σ H Q ⟨ts, vs, e, P, ⟨S, R⟩, h, k⟩ => k S [] e [] H R .nil h
theorem mk_cons {es : List Expr} {r : pA} (n : notStar a = true) (ha : PE X a (canE C pa)) (hr : PA X es (canK C r)) : PA X (a :: es) (canK C (pCons pa r)) :=
  (pa_cons ha hr (star_cons n)).up fun σ H Q ⟨ts, vs, e, P, R, h, k⟩ => useF R h fun d e1 v H1 R1 h1 => ⟨_, _, e1, _, R1, h1, fun S ds e' ws H' R' rs h' => k S (d :: ds) e' (v :: ws) H' R'.pop (.cons R'.topV rs) h'⟩
theorem ml_of {es : List Expr} {r : pA} (h : PA X es (canK C r)) : PA X es (canL C r) := h.up fun σ H Q ⟨ts, vs, e, P, R, h, k⟩ => ⟨ts, vs, e, P, R, h, fun S ds e' ws H' R' rs h' => k S ds e' ws H' R' rs.ra h'⟩
theorem ml_last (n : notStar a = true) (ha : PE X a (canP C q)) : PA X [a] (canL C (pLast q)) :=
  (pa_cons ha pa_nil (star_cons n)).up fun σ H Q ⟨ts, vs, e, P, R, h, k⟩ => useP R h fun S d e1 v H1 R1 rd h1 => k S [d] e1 [v] H1 R1 (.cons rd .nil) h1
theorem ml_cons {es : List Expr} {r : pA} (n : notStar a = true) (ha : PE X a (canE C pa)) (hr : PA X es (canL C r)) : PA X (a :: es) (canL C (pCons pa r)) :=
  (pa_cons ha hr (star_cons n)).up fun σ H Q ⟨ts, vs, e, P, R, h, k⟩ => useF R h fun d e1 v H1 R1 h1 => ⟨_, _, e1, _, R1, h1, fun S ds e' ws H' R' rs h' => k S (d :: ds) e' (v :: ws) H' R'.pop (.cons (.inl R'.topV) rs) h'⟩
theorem me_tup {es : List Expr} {r : pA} {x1} (h : PA X es (canK C r)) : PE X (.Tuple es x1 pos) (canE C (pTup r)) :=
  (pe_tup h).up fun σ H Q ⟨ts, vs, e, P, R, h, k⟩ => ⟨ts, vs, e, _, R, h, fun S ds e' ws H' R' rs ⟨h1, h2⟩ => ⟨by rw [← rs.length]; exact h1, fun p hp => k _ e' _ _ ⟨_, R'.pushT hp rs⟩ h2⟩⟩
theorem me_lst {es : List Expr} {r : pA} (h : PA X es (canK C r)) : PE X (.List es pos) (canE C (pLst r)) :=
  (pe_lst h).up fun σ H Q ⟨ts, vs, e, P, R, h, k⟩ => ⟨ts, vs, e, _, R, h, fun S ds e' ws H' R' rs ⟨h1, h2⟩ => ⟨by rw [← rs.length]; exact h1, fun p hp => k _ e' _ _ ⟨_, R'.pushL hp rs⟩ h2⟩⟩
theorem me_blt {es : List Expr} {r : pA} {bl : Blt} {t : List V → Hp → VK → Prop} (hr : t = canA C.K C.mg (bltB bl)) (hx : ∀ ta, PA X es ta → PE X ex (tCB t ta)) (h : PA X es (canL C r)) : PE X ex (canE C (pBlt bl r)) :=
  (hx _ h).up fun σ H Q ⟨ts, vs, e, P, R, h, k⟩ => ⟨ts, vs, e, _, R, h, fun S ds e' ws H' R' rs h' => by
    rw [hr]
    exact ⟨S, ds, _, R'.sub, rs, h', fun z v H2 res hz => k z e' v H2 (Rep.res R' res) hz⟩⟩

/-! ### items, slices -/
theorem me_ixN {i : Nat} {op : R2} (hr : op = can2 C.K C.mg itemB) (h : ∀ tb, PE X b tb → PE X ex (tOp op (tVar i) tb)) (hb : PE X b (canP C q)) : PE X ex (canE C (pIxN i q)) :=
  (h _ hb).up fun σ H Q ⟨ts, vs, e, P, ⟨S, R⟩, ⟨⟨sv, hs⟩, h⟩, k⟩ => by
    obtain ⟨v, h1, _⟩ := R.slot i _ hs
    refine ⟨v, h1, useP ⟨S, R⟩ h fun S1 y e1 w H1 R1 ry h2 => ?_⟩
    rw [hr]
    have fin : ∀ {d v'}, σ[i]? = some (some v') → Ra C.K C.mg S1 H1 d v' → itemB d y (fun z => P z e1) → can2 C.K C.mg itemB v w H1 Q := fun {d v'} hv rd hi => by
      rw [h1] at hv; cases hv
      exact ⟨S1, d, y, _, R1.sub, rd, ry, hi, fun z v' H' res hz => k z e1 v' H' (Rep.res R1 res) hz⟩
    unfold pPk at h2
    split at h2
    · rename_i d q
      obtain ⟨v2, h3, h4⟩ := R1.slot i _ q
      exact fin h3 (.inl h4) h2
    · rename_i m q
      obtain ⟨v2, h3, h4⟩ := R1.look (m := .lst m) q rfl ⟨_, rfl⟩
      exact fin h3 h4 h2
    · rename_i m q
      obtain ⟨v2, h3, h4⟩ := R1.look (m := .lst m) q rfl ⟨_, rfl⟩
      exact fin h3 h4 h2
    · exact h2.elim
theorem mo_none : PO X none (canO C (pPart none)) := po_none.up fun σ H Q ⟨ts, vs, e, P, R, h, k⟩ => k none e H R h
theorem mo_some (ha : PE X a (canE C pa)) : PO X (some a) (canO C (pPart (some pa))) := (po_some ha).up fun σ H Q ⟨ts, vs, e, P, R, h, k⟩ => ⟨ts, vs, e, _, R, h, fun sv e' v H' ⟨S, R'⟩ h' => by
  split at h'
  · have r := R'.topV
    cases r
    exact ⟨_, rfl, k _ e' H' ⟨S, R'.pop⟩ h'⟩
  · exact h'.elim⟩
theorem me_slice {lo hi : Option Expr} {plo phi : Option pE} {t : V → Option Int → Option Int → Hp → VK → Prop} (hr : t = canSl C.K C.mg) (h : ∀ ta tl th, PE X a ta → PO X lo tl → PO X hi th → PE X ex (tSl t ta tl th))
    (ha : PE X a (canE C pa)) (hl : PO X lo (canO C (pPart plo))) (hh : PO X hi (canO C (pPart phi))) : PE X ex (canE C (pSl pa plo phi)) :=
  (h _ _ _ ha hl hh).up fun σ H Q ⟨ts, vs, e, P, R, h, k⟩ => useF R h fun x e1 v H1 R1 h1 => ⟨_, _, e1, _, R1, h1, fun l e2 H2 R2 h2 => ⟨_, _, e2, _, R2, h2, fun u e3 H3 ⟨S, R3⟩ h3 => by
    rw [hr]
    exact ⟨S, x, _, R3.sub, .inl R3.topV, h3, fun z v' H' res hz => k z e3 v' H' (Rep.res R3.pop res) hz⟩⟩⟩
theorem me_sliceN {i : Nat} {lo hi : Option Expr} {plo phi : Option pE} {t : V → Option Int → Option Int → Hp → VK → Prop} (hr : t = canSl C.K C.mg) (h : ∀ tl th, PO X lo tl → PO X hi th → PE X ex (tSl t (tVar i) tl th))
    (hl : PO X lo (canO C (pPart plo))) (hh : PO X hi (canO C (pPart phi))) : PE X ex (canE C (pSlN i plo phi)) :=
  (h _ _ hl hh).up fun σ H Q ⟨ts, vs, e, P, ⟨S, R⟩, ⟨⟨sv, hs⟩, h⟩, k⟩ => by
    obtain ⟨v, h1, _⟩ := R.slot i _ hs
    refine ⟨v, h1, ts, vs, e, _, ⟨S, R⟩, h, fun l e2 H2 R2 h2 => ⟨_, _, e2, _, R2, h2, fun u e3 H3 ⟨S1, R1⟩ h3 => ?_⟩⟩
    rw [hr]
    have fin : ∀ {d v'}, σ[i]? = some (some v') → Ra C.K C.mg S1 H3 d v' → sliceB d l u (fun z => P z e3) → canSl C.K C.mg v l u H3 Q := fun {d v'} hv rd hi => by
      rw [h1] at hv; cases hv
      exact ⟨S1, d, _, R1.sub, rd, hi, fun z v' H' res hz => k z e3 v' H' (Rep.res R1 res) hz⟩
    unfold pPk at h3
    split at h3
    · rename_i d q
      obtain ⟨v2, h3', h4⟩ := R1.slot i _ q
      exact fin h3' (.inl h4) h3
    · rename_i m q
      obtain ⟨v2, h3', h4⟩ := R1.look (m := .lst m) q rfl ⟨_, rfl⟩
      exact fin h3' h4 h3
    · rename_i m q
      obtain ⟨v2, h3', h4⟩ := R1.look (m := .lst m) q rfl ⟨_, rfl⟩
      exact fin h3' h4 h3
    · exact h3.elim
end
end PL
set_option Elab.async false
set_option linter.all false
set_option maxRecDepth 100000
set_option maxHeartbeats 4000000
/-! PL4: targets, what a for walks, statements, comprehensions, methods of lists. -/
namespace PL
open PySem PySem.Spec PyProof.Rows L2

section
variable {X : Cx} {C : Cfg} {a b c ex : Expr} {pos : Pos} {pa pb pc p : pE} {q : pV}
/-! ### targets -/
theorem mg_name {ρ : L2.St → L2.St → Prop} {i : Nat} (h : PG X a (gName i)) (hr : ∀ σ v, ρ σ (σ.set i (some v))) : PG X a (canG C ρ (gP i)) := h.up fun v σ H Q ⟨sv, ts, vs, e, P, ⟨S, R⟩, ⟨hn, h⟩, k⟩ => k _ _ H ⟨S, R.store⟩ (hr σ v) h
theorem useG {ρ : L2.St → L2.St → Prop} {g : pG} {σ : L2.St} {H : Hp} {Q : L2.St → Hp → Prop} {ts : List Sv} {vs : List V} {e : PEnv} {P : PEnv → Prop} {sv : Sv} {v : V} (R : Rep C (sv :: ts) (v :: vs) e σ H) (h : g sv e P) (k : ∀ e' σ' H', Rep C ts vs e' σ' H' → ρ σ σ' → P e' → Q σ' H') : canG C ρ g v σ H Q := ⟨sv, ts, vs, e, P, R, h, k⟩
theorem mgs_nil {ρ : L2.St → L2.St → Prop} (hr : RhoOk ρ) : PGs X [] (canGs C ρ gsNil) := pgs_nil.up fun ws σ H Q ⟨ds, ts, vs, e, P, hl, R, ⟨e1, h⟩, k⟩ => by
  subst e1
  have : ws = [] := List.length_eq_zero_iff.mp hl
  subst this
  exact ⟨rfl, k e σ H R (hr.refl σ) h⟩
theorem mgs_cons {ρ : L2.St → L2.St → Prop} (hr : RhoOk ρ) {es : List Expr} {g : pG} {gs : pGs} (n : notStar a = true) (h1 : PG X a (canG C ρ g)) (h2 : PGs X es (canGs C ρ gs)) : PGs X (a :: es) (canGs C ρ (gsCons g gs)) :=
  (pgs_cons h1 h2 (by cases a <;> first | rfl | cases n)).up fun ws σ H Q ⟨ds, ts, vs, e, P, hl, R, h, k⟩ => by
    unfold gsCons at h
    split at h
    · rename_i d r
      cases ws with
      | nil => simp at hl
      | cons w ws =>
        refine ⟨w, ws, rfl, useG (ts := r.map .val ++ ts) (vs := ws ++ vs) (show Rep C (.val d :: (r.map .val ++ ts)) (w :: (ws ++ vs)) e σ H from R) h fun e1 σ1 H1 R1 r1 h1 => ?_⟩
        exact ⟨r, ts, vs, e1, P, by simpa using hl, R1, h1, fun e' σ' H' R' r' h' => k e' σ' H' R' (hr.trans r1 r') h'⟩
    · exact h.elim
theorem pushAll {S H : Hp} {e : PEnv} {σ : L2.St} : ∀ {ds : List D} {ws : List V} {ts : List Sv} {vs : List V}, RpL C.K C.mg S ds ws → RepAt C S ts vs e σ H → RepAt C S (ds.map .val ++ ts) (ws ++ vs) e σ H
  | _, _, _, _, .nil, R => R
  | _, _, _, _, .cons r t, R => (pushAll t R).pushV r
theorem noStar_find {env : Env} : ∀ {es : List Expr}, es.all notStar = true → (assignEach es env).findIdx? (·.1) = none ∧ (assignEach es env).length = es.length
  | [], _ => ⟨rfl, rfl⟩
  | e :: es, h => by
    rw [List.all_cons, Bool.and_eq_true] at h
    obtain ⟨h1, h2⟩ := noStar_find (env := env) h.2
    have e1 : assignEach (e :: es) env = (false, assign e env) :: assignEach es env := by
      have := h.1
      cases e <;> first | rfl | cases this
    rw [e1]
    refine ⟨?_, by simp [h2]⟩
    rw [List.findIdx?_cons]
    simp [h1]
/-- what the gap says of a list's items -/
theorem mg_tup {ρ : L2.St → L2.St → Prop} {es : List Expr} {kk : Nat} {gs : pGs} (hc : X.calm = true) (n : es.all notStar = true) (hK : X.K = C.K) (h : PGs X es (canGs C ρ gs)) : PG X (.Tuple es kk pos) (canG C ρ (gTL es.length gs)) := by
  obtain ⟨n1, n2⟩ := noStar_find (env := X.env) n
  refine ⟨fun pins s σ H v u Q I r ⟨sv, ts, vs, e, P, R, ⟨d, ds, h1, h2, h3, hg⟩, k⟩ => ?_⟩
  obtain ⟨S, R1⟩ := R.fz h1
  have go : ∀ {xs : List V}, RpL C.K C.mg S ds xs → canGs C ρ gs xs σ H Q := fun {xs} rs => ⟨ds, _, _, e, P, rs.length.symm, ⟨S, pushAll rs R1⟩, hg, fun e' σ' H' ⟨S', R'⟩ r' h' => k e' σ' H' ⟨S', R'.pop⟩ r' h'⟩
  have rd := R1.topV
  unfold D.items at h2
  split at h2
  · cases h2
    cases rd with
    | tup sq rs =>
      exact (pg_tup (n := es.length) hc h n2 n1).run pins s σ H _ u Q I r ⟨_, _, rfl, by rw [hK]; exact R1.sub.tup sq, by rw [← rs.length]; exact h3, go rs⟩
  · cases h2
    cases rd with
    | lst sq rs =>
      exact (pg_lst (n := es.length) hc h n2 n1).run pins s σ H _ u Q I r ⟨_, _, rfl, SqL.of (R1.sub _ _ sq), by rw [← rs.length]; exact h3, go rs⟩
  · cases h2
    cases rd with
    | lsq sq rs =>
      exact (pg_lst (n := es.length) hc h n2 n1).run pins s σ H _ u Q I r ⟨_, _, rfl, by rw [hK]; exact R1.sub.seq sq, by rw [← rs.length]; exact h3, go rs⟩
  · cases h2
theorem heldL_is {sv : Sv} {ds : List D} (h : heldL sv = some ds) : isHeld sv (.lst ds) := by
  unfold heldL at h
  split at h
  · cases h; rfl
  · cases h; rfl
  · cases h
/-- the address of the object that a slot holds -/
theorem RepAt.addr {S : Hp} {ts : List Sv} {vs : List V} {e : PEnv} {σ : L2.St} {H : Hp} {i : Nat} {sv : Sv} {ds : List D} (R : RepAt C S ts vs e σ H) (q : e[i]? = some (some sv)) (hl : heldL sv = some ds) :
    ∃ p xs, σ[i]? = some (some (.ref p)) ∧ H p = some (.lst xs) ∧ RpL C.K C.mg S ds xs ∧ ∀ ds' xs', RpL C.K C.mg S ds' xs' → RepAt C S ts vs (e.set i (some (reHold sv (.lst ds')))) σ (upd H p (.lst xs')) := by
  obtain ⟨p, h1, ⟨xs, h2, h3⟩, k⟩ := R.change q (heldL_is hl)
  exact ⟨p, xs, h1, h2, h3, fun ds' xs' rs => k _ _ ⟨xs', upd_same, rs⟩⟩
theorem mg_ix {ρ : L2.St → L2.St → Prop} (hr : RhoOk ρ) {i : Nat} (h : ∀ ti, PE X b ti → PG X ex (gSub (tVar i) ti rSetL)) (hb : PE X b (canE C pb)) : PG X ex (canG C ρ (gIx i pb)) :=
  (h _ hb).up fun v σ H Q ⟨sv, ts, vs, e, P, R, ⟨d, h1, ⟨s0, hs0, _⟩, h2⟩, k⟩ => by
    obtain ⟨S, R1⟩ := R.fz h1
    obtain ⟨o, ho, _⟩ := R1.slot i _ hs0
    refine ⟨o, ho, useF ⟨S, R1⟩ h2 fun kd e1 w H1 ⟨S1, R2⟩ ⟨s1, ds, z, j, q1, q2, q3, q4, hP⟩ => ?_⟩
    subst q3
    have rw1 := R2.topV
    cases rw1
    have R3 := R2.pop
    obtain ⟨p, xs, ha, hx, rs, kk⟩ := R3.addr q1 q2
    rw [ho] at ha; cases ha
    refine ⟨p, xs, z, j, rfl, rfl, hx, by rw [← rs.length]; exact q4, ?_⟩
    exact k _ σ _ ⟨S1, (kk _ _ (rs.set R3.topV j)).pop⟩ (hr.refl σ) hP

/-! ### what a for walks -/
theorem wk_list {K : PySem.W.Frag} {p : Addr} {ds : List D} (hK : K = C.K) : Wk C (Itl K p) ds [.val (.lst ds)] [.ref p] where
  len := rfl
  go := fun i R hi => by
    have r := R.topV
    cases r with
    | lst sq rs =>
      obtain ⟨v, h1, h2⟩ := rs.get (i := i) (d := ds[i]) (by simp [hi])
      exact ⟨_, v, SqL.of (R.sub _ _ sq), h1⟩
  stop := fun R => by
    have r := R.topV
    cases r with
    | lst sq rs => exact ⟨_, SqL.of (R.sub _ _ sq), by rw [rs.length]; exact Nat.le_refl _⟩
  yld := fun i x H' d R hy hd => by
    have r := R.topV
    cases r with
    | lst sq rs =>
      obtain ⟨e, hy⟩ := hy
      subst e
      obtain ⟨v, h1, h2⟩ := rs.get hd
      have := hy _ (SqL.of (R.sub _ _ sq))
      rw [h1] at this; cases this
      exact .same h2
theorem wk_lsq {K : PySem.W.Frag} {p : Addr} {ds : List D} (hK : K = C.K) : Wk C (Itl K p) ds [.val (.lsq ds)] [.ref p] where
  len := rfl
  go := fun i R hi => by
    subst hK
    have r := R.topV
    cases r with
    | lsq sq rs =>
      obtain ⟨v, h1, h2⟩ := rs.get (i := i) (d := ds[i]) (by simp [hi])
      exact ⟨_, v, R.sub.seq sq, h1⟩
  stop := fun R => by
    subst hK
    have r := R.topV
    cases r with
    | lsq sq rs => exact ⟨_, R.sub.seq sq, by rw [rs.length]; exact Nat.le_refl _⟩
  yld := fun i x H' d R hy hd => by
    subst hK
    have r := R.topV
    cases r with
    | lsq sq rs =>
      obtain ⟨e, hy⟩ := hy
      subst e
      obtain ⟨v, h1, h2⟩ := rs.get hd
      have := hy _ (R.sub.seq sq)
      rw [h1] at this; cases this
      exact .same h2
theorem wk_tup {K : PySem.W.Frag} {p : Addr} {ds : List D} (hK : K = C.K) : Wk C (Itt K p) ds [.val (.tup ds)] [.ref p] where
  len := rfl
  go := fun i R hi => by
    subst hK
    have r := R.topV
    cases r with
    | tup sq rs =>
      obtain ⟨v, h1, h2⟩ := rs.get (i := i) (d := ds[i]) (by simp [hi])
      exact ⟨_, v, R.sub.tup sq, h1⟩
  stop := fun R => by
    subst hK
    have r := R.topV
    cases r with
    | tup sq rs => exact ⟨_, R.sub.tup sq, by rw [rs.length]; exact Nat.le_refl _⟩
  yld := fun i x H' d R hy hd => by
    subst hK
    have r := R.topV
    cases r with
    | tup sq rs =>
      obtain ⟨e, hy⟩ := hy
      subst e
      obtain ⟨v, h1, h2⟩ := rs.get hd
      have := hy _ (R.sub.tup sq)
      rw [h1] at this; cases this
      exact .same h2
theorem wk_str {z : Str} : Wk C (Its z) (z.cps.toList.map fun c => .str ⟨#[c]⟩) [] [] where
  len := rfl
  go := fun i R hi => by show i < z.cps.size; simpa using hi
  stop := fun R => by show z.cps.size ≤ _; simp
  yld := fun i x H' d R hy hd => by
    obtain ⟨e, c, h1, h2⟩ := hy
    subst e; subst h2
    rw [List.getElem?_map] at hd
    have e : z.cps.toList[i]? = some c := by simpa using h1
    rw [e] at hd; cases hd
    exact .same (.str _)
theorem wk_range {lo : Int} {n : Nat} : Wk C (Itr lo n) (rangeD lo n) [] [] where
  len := rfl
  go := fun i R hi => by show i < n; simpa [rangeD] using hi
  stop := fun R => by show n ≤ _; simp [rangeD]
  yld := fun i x H' d R hy hd => by
    obtain ⟨e, h2⟩ := hy
    subst e; subst h2
    unfold rangeD at hd
    rw [List.getElem?_map] at hd
    by_cases hi : i < n
    · rw [List.getElem?_range hi] at hd
      cases hd
      exact .same (.int _)
    · rw [List.getElem?_eq_none (by simpa using hi)] at hd; cases hd
/-- a value that is walked: a tuple, a list, a text -/
theorem mi_val {tg : Expr} (hK : X.K = C.K) (ha : PE X a (canE C pa)) : PI X tg a (canI C (iVal pa)) := by
  refine ⟨fun pins s σ H R I ⟨ts, vs, e, P, R0, h, k⟩ => ?_⟩
  have h' : canE C pa σ H (fun x H1 => ((∃ p, x = .ref p ∧ (∃ xs, SqL X.K H1 p xs) ∧ R (Itl X.K p) H1) ∨ (∃ p, x = .ref p ∧ (∃ xs, SqT X.K H1 p xs) ∧ R (Itt X.K p) H1)) ∨ ∃ z, x = .str z ∧ R (Its z) H1) := useF R0 h fun d e1 v H1 ⟨S, R1⟩ hd => by
    split at hd
    · have r := R1.topV
      cases r with
      | tup sq rs => exact .inl (.inr ⟨_, rfl, ⟨_, by rw [hK]; exact R1.sub.tup sq⟩, k _ _ _ _ e1 H1 (show Rep C ([_] ++ ts) ([_] ++ vs) e1 σ H1 from ⟨S, R1⟩) (wk_tup hK) hd⟩)
    · have r := R1.topV
      cases r with
      | lst sq rs => exact .inl (.inl ⟨_, rfl, ⟨_, SqL.of (R1.sub _ _ sq)⟩, k _ _ _ _ e1 H1 (show Rep C ([_] ++ ts) ([_] ++ vs) e1 σ H1 from ⟨S, R1⟩) (wk_list hK) hd⟩)
    · have r := R1.topV
      cases r with
      | lsq sq rs => exact .inl (.inl ⟨_, rfl, ⟨_, by rw [hK]; exact R1.sub.seq sq⟩, k _ _ _ _ e1 H1 (show Rep C ([_] ++ ts) ([_] ++ vs) e1 σ H1 from ⟨S, R1⟩) (wk_lsq hK) hd⟩)
    · have r := R1.topV
      cases r
      exact .inr ⟨_, rfl, k _ _ [] [] e1 H1 ⟨S, R1.pop⟩ wk_str hd⟩
    · exact hd.elim
  refine thn (ha.run pins s σ H _ I h') fun v s1 ⟨x, H1, I1, r1, q1⟩ => ?_
  -- each kind by the kit's own rule, over an expression that gives the value
  have via : ∀ {wi : TI}, (∀ (b : Expr), PE X b (fun σ H Q => Q x H) → PI X tg b wi) → True := fun _ => trivial
  rcases q1 with (⟨p, rfl, ⟨xs, hq⟩, q⟩ | ⟨p, rfl, ⟨xs, hq⟩, q⟩) | ⟨z, rfl, q⟩
  · cases r1
    obtain ⟨its, rv, pl, hz⟩ := I1.list hq
    refine wpAny_pyIter_list pl.isList ?_
    refine ⟨s1.heap.objs.size, [s1.heap.objs.size], _, _, H1, rfl, I1.kept (t' := s1.toks) fun b o e => Heap.get?_push_of_some _ e, turn_list p _, ⟨_, Heap.get?_push_size _ rfl, rfl, rfl⟩, fun b hb => ?_, q⟩
    have e : b = s1.heap.objs.size := by simpa using hb
    subst e
    exact I1.fpOk (Nat.le_refl _) (I1.hok.fresh (Nat.le_refl _))
  · cases r1
    obtain ⟨its, rv, pl, hz⟩ := I1.tuple hq
    refine wpAny_pyIter_tuple (show s1.heap.IsTuple p its.toArray from pl) ?_
    refine ⟨s1.heap.objs.size, [s1.heap.objs.size], _, _, H1, rfl, I1.kept (t' := s1.toks) fun b o e => Heap.get?_push_of_some _ e, turn_tuple p _, ⟨_, Heap.get?_push_size _ rfl, rfl, rfl⟩, fun b hb => ?_, q⟩
    have e : b = s1.heap.objs.size := by simpa using hb
    subst e
    exact I1.fpOk (Nat.le_refl _) (I1.hok.fresh (Nat.le_refl _))
  · obtain ⟨t, rfl⟩ := r1
    cases ha : z.cps.all (· < 128)
    · exact wpAny_pyIter_wide ha (pi_one (tk := s1.toks) I1 _ (turn_str _ z t "str_iterator" (.inr rfl)) ⟨_, Heap.get?_push_size _ rfl, rfl, rfl⟩ q)
    · exact wpAny_pyIter_ascii ha (pi_one (tk := s1.toks) I1 _ (turn_str _ z t "str_ascii_iterator" (.inl rfl)) ⟨_, Heap.get?_push_size _ rfl, rfl, rfl⟩ q)
theorem mi_range1 {tg : Expr} (h : ∀ ta, PA X [a] ta → PI X tg ex (iRng1 ta)) (n : notStar a = true) (ha : PE X a (canE C pa)) : PI X tg ex (canI C (iRange1 pa)) :=
  (h _ (pa_cons ha pa_nil (star_cons n))).up fun σ H R ⟨ts, vs, e, P, R0, h, k⟩ => useF R0 h fun d e1 v H1 ⟨S, R1⟩ ⟨j, e, hb, hP⟩ => by
    subst e
    have r := R1.topV
    cases r
    exact ⟨j, rfl, hb.1, hb.2, k _ _ [] [] e1 H1 ⟨S, R1.pop⟩ wk_range hP⟩
theorem mi_range2 {tg : Expr} (h : ∀ ta, PA X [a, b] ta → PI X tg ex (iRng2 ta)) (n : notStar a = true) (n2 : notStar b = true) (ha : PE X a (canE C pa)) (hb : PE X b (canE C pb)) : PI X tg ex (canI C (iRange2 pa pb)) :=
  (h _ (pa_cons ha (pa_cons hb pa_nil (star_cons n2)) (star_cons n))).up fun σ H R ⟨ts, vs, e, P, R0, h, k⟩ => useF R0 h fun d e1 v H1 R1 h1 => useF R1 h1 fun d2 e2 v2 H2 ⟨S, R2⟩ ⟨i, j, e, e', hb, hP⟩ => by
    subst e; subst e'
    have r := R2.topV
    cases r
    have r := R2.pop.topV
    cases r
    exact ⟨i, j, rfl, hb, k _ _ [] [] e2 H2 ⟨S, R2.pop.pop⟩ wk_range hP⟩
/-! ### enumerate -/
theorem enumD_get {ds : List D} {i : Nat} {d : D} (h : (enumD ds)[i]? = some d) : ∃ x, ds[i]? = some x ∧ d = .tup [.int (i : Nat), x] := by
  unfold enumD at h
  rw [List.getElem?_map] at h
  by_cases hi : i < ds.length
  · rw [List.getElem?_range hi] at h
    simp only [Option.map_some, Option.some.injEq] at h
    refine ⟨ds[i], by simp [hi], ?_⟩
    rw [← h, List.getD_eq_getElem?_getD]
    simp [hi]
  · rw [List.getElem?_eq_none (by simpa using hi)] at h; cases h
theorem enumD_len {ds : List D} : (enumD ds).length = ds.length := by simp [enumD]
theorem wk_enum {p : Addr} {ds : List D} {kd : D} (hk : ∀ {S H : Hp}, Le S H → Rp C.K C.mg S kd (.ref p) → ∃ xs, SqL C.K H p xs ∧ RpL C.K C.mg S ds xs) : Wk C (Ite C.K p) (enumD ds) [.val kd] [.ref p] where
  len := rfl
  go := fun i R hi => by
    obtain ⟨xs, sq, rs⟩ := hk R.sub R.topV
    rw [enumD_len] at hi
    obtain ⟨v, h1, h2⟩ := rs.get (i := i) (d := ds[i]) (by simp [hi])
    exact ⟨_, v, sq, h1⟩
  stop := fun R => by
    obtain ⟨xs, sq, rs⟩ := hk R.sub R.topV
    exact ⟨_, sq, by rw [enumD_len, rs.length]; exact Nat.le_refl _⟩
  yld := fun i x H' d R hy hd => by
    obtain ⟨xs, sq, rs⟩ := hk R.sub R.topV
    obtain ⟨y, h1, rfl⟩ := enumD_get hd
    obtain ⟨T, w, rfl, hT, rfl, hw⟩ := hy
    obtain ⟨v, h2, h3⟩ := rs.get h1
    have := hw _ sq
    rw [h2] at this; cases this
    exact .newT hT (.cons (.int _) (.cons h3 .nil))
end
end PL
set_option Elab.async false
set_option linter.all false
set_option maxRecDepth 100000
set_option maxHeartbeats 4000000
/-! PL5: enumerate of a tuple or a list, zip of two tuples or two lists. -/
namespace PL
open PySem PySem.Spec PyProof.Rows L2

theorem meets_enum1 {v : Value} {o : Obj} {H : Heap → Prop} (B : Begins v o H) :
    Meets (Builtin.«enumerate.__new__» ⟨[.type "enumerate", v], []⟩) (fun _ R s => H s.heap ∧
      R (.ok (.ret (.ref (s.heap.push o).objs.size))) { s with heap := (s.heap.push o).push { cls := .type "enumerate", data := .fields #[.none, .bool false, .ref s.heap.objs.size, rawInt 0, .none, .none] } }) :=
  .of_wp fun prog w A R s h => by
    obtain ⟨hp, g, d, tk, os⟩ := s; obtain ⟨h1, h⟩ := h
    have hsub := sub_enumerate
    have q1 : ∀ {A' : Around} {E : Value → Shared → Prop} {Q : Value → Shared → Prop}, Q (.ref hp.objs.size) ⟨hp.push o, g, d, tk, os⟩ → wpAny (model prog w) A' (pyIter v) Q E ⟨hp, g, d, tk, os⟩ :=
      fun q => B.iter prog w _ _ ⟨hp, g, d, tk, os⟩ _ h1 q
    wp_walk using q1
    refine wpAny_stack_any fun st => wpAny_pure ?_
    split
    · rename_i c _ _ _ _ _
      cases (c == Value.type "enumerate")
      · wp_walk using q1
        exact ⟨_, rfl, h⟩
      · wp_walk using q1
        exact ⟨_, rfl, h⟩
    · wp_walk using q1
      exact ⟨_, rfl, h⟩
section
variable {prog : Program} {w : World} {A : Around} {E : Value → Shared → Prop} {s : Shared}
theorem call_enum1 {v : Value} {o : Obj} {H : Heap → Prop} {Q : Value → Shared → Prop} (B : Begins v o H) (h1 : H s.heap)
    (h : ∀ h', IsEnum h' (s.heap.objs.size + 1) s.heap.objs.size 0 .none → h'.get? s.heap.objs.size = some o → h'.objs.size = s.heap.objs.size + 2 →
      (∀ b o, s.heap.get? b = some o → h'.get? b = some o) → Q (.ref (s.heap.objs.size + 1)) { s with heap := h' }) :
    wpAny (model prog w) A (call (.type "enumerate") [v]) Q E s := by
  refine callType_new F.called_enumerate (by decide) (F.typeCall_enumerate_1 _) (F.newCall_enumerate_1 _) (fun obj => F.args_object_init_2 obj _) F.entry_enumerate_new
    (meets_enum1 B) ⟨h1, ?_⟩
  have hz : (s.heap.push o).objs.size = s.heap.objs.size + 1 := Heap.size_push ..
  show _ ∧ _
  rw [hz]
  have he : IsEnum ((s.heap.push o).push { cls := .type "enumerate", data := .fields #[.none, .bool false, .ref s.heap.objs.size, rawInt 0, .none, .none] }) (s.heap.objs.size + 1) s.heap.objs.size 0 .none := by
    have := Heap.get?_push_size (s.heap.push o) (o := { cls := .type "enumerate", data := .fields #[.none, .bool false, .ref s.heap.objs.size, rawInt 0, .none, .none] }) rfl
    rw [hz] at this; exact this
  refine ⟨⟨_, he, rfl⟩, h _ he (Heap.get?_push_of_some _ (Heap.get?_push_size _ B.free)) (by rw [Heap.size_push, hz]) fun b o x => Heap.get?_push_of_some _ (Heap.get?_push_of_some _ x)⟩
end
def IteT (K : PySem.W.Frag) (a : Addr) : It :=
  ⟨fun i H => ∃ (xs : List V) (x : V), SqT K H a xs ∧ xs[i]? = some x, fun i H v H' => ∃ T x, v = .ref T ∧ H T = none ∧ H' = upd H T (.tup [.int (i : Nat), x]) ∧ ∀ xs, SqT K H a xs → xs[i]? = some x, fun i H => ∃ xs : List V, SqT K H a xs ∧ xs.length = i⟩
theorem turn_enumT {P : Program} {w : World} {K : PySem.W.Frag} {elts : List Expr} {kk : Nat} {tpos : Pos} (a e it : Addr) :
    Turn P w K (.Tuple elts kk tpos) (IteT K a) [e, it] e (fun i h => (∃ old, IsEnum h e it ((i : Nat) : Int) old) ∧ h.IsTupleIter it a i ∧ e ≠ it ∧ a ≠ it ∧ a ≠ e) where
  mem := by simp
  obj := fun i h st b hb => by
    obtain ⟨⟨old, he⟩, ⟨o, ho, hc, hd⟩, _⟩ := st
    have e' : b = e ∨ b = it := by simpa using hb
    rcases e' with z | z
    · rw [z]; exact ⟨_, he, fun v q => nomatch q⟩
    · rw [z]; exact ⟨o, ho, fun v q => by rw [hd] at q; cases q⟩
  keep := fun i h h' st k => let ⟨⟨old, he⟩, hi, hne⟩ := st; ⟨⟨old, k e (by simp) _ he⟩, hi.at fun o q => k it (by simp) o q, hne⟩
  item := by
    intro X hP hw hK hc i pins s σ H E I hf st hg
    subst hP hw hK
    obtain ⟨⟨old, he⟩, hit, hne, hai, hae⟩ := st
    obtain ⟨xs, x, hq, hx⟩ := hg
    obtain ⟨its, rv, p, hz⟩ := I.tuple hq
    obtain ⟨u, hu, ru⟩ := rv.get hx
    have hel : e < s.heap.objs.size := Heap.lt_size he
    have hil : it < s.heap.objs.size := by obtain ⟨_, q, _⟩ := hit; exact Heap.lt_size q
    have ht : s.heap.IsTuple a its.toArray := p
    have hlt : i < its.toArray.size := by
      have := (List.getElem?_eq_some_iff.mp hu).1
      simpa using this
    refine wpAny_pyNext_enum_itemD (Draws.tuple (A := X.A.in1) (I.ok.hd hc) it a hai its.toArray) he ⟨hit, ht⟩ hlt hne (by simp [hne, Ne.symm hae]) fun v h' tk hv ho hst hT hsz hk => ?_
    have hvu : v = u := by
      have : its.toArray[i]? = some u := by simpa using hu
      rw [this] at hv; cases hv; rfl
    subst hvu
    refine ⟨_, rfl, wpAny_letOwnedTupleGo_enum (s := { s with heap := h', toks := tk + 1 }) ho fun h'' he' sb => ?_⟩
    have hT2 : h''.get? s.heap.objs.size = some { cls := .type "tuple", data := .seq #[.int i tk, v] } := (sb.2 _ (Nat.ne_of_gt hel)).trans hT
    have new : ObjOk X.prog X.w (upd H s.heap.objs.size (.tup [.int (i : Nat), x])) h'' s.heap.objs.size (.tup [.int (i : Nat), x]) :=
      ⟨by show 2 ≤ sizeLine; decide, [.int i tk, v], .cons ⟨_, rfl⟩ (.cons ru .nil), ⟨_, hT2, rfl, _, rfl⟩⟩
    have I1 : Inv X pins σ (upd H s.heap.objs.size (.tup [.int (i : Nat), x])) { s with heap := h'', toks := tk + 1 } :=
      I.turnedNew (ch := [e, it]) (fun b ob hb q => (sb.2 b (fun z => hb (by simp [z]))).trans (hk b ob (fun z => hb (by simp [z])) (fun z => hb (by simp [z])) q)) hf (Nat.le_refl _) new
    refine ⟨.ref s.heap.objs.size, _, I1, rfl, ⟨_, x, rfl, I.hok.fresh (Nat.le_refl _), rfl, fun ys hy => by rw [I.tuple_inj hy hq]; exact hx⟩, ⟨⟨v, ?_⟩, hst.1.at fun o q => (sb.2 it (Ne.symm hne)).trans q, hne, hai, hae⟩, fun b hb => ?_⟩
    · have e1 : ((i + 1 : Nat) : Int) = (i : Int) + 1 := by omega
      rw [e1]; exact he'
    · have hb' : b < s.heap.objs.size := by
        have e' : b = e ∨ b = it := by simpa using hb
        rcases e' with z | z
        · rw [z]; exact hel
        · rw [z]; exact hil
      rw [upd_ne (Nat.ne_of_lt hb')]
      exact (hf b hb).1
  done := by
    intro X hP hw hK hc i pins s σ H E I hf st hg
    subst hP hw hK
    obtain ⟨⟨old, he⟩, hit, hne, hai, hae⟩ := st
    obtain ⟨xs, hq, hx⟩ := hg
    obtain ⟨its, rv, p, hz⟩ := I.tuple hq
    obtain ⟨f0, f1, f2, f3, f4, f5⟩ := hf it (by simp)
    have hl := rv.length
    have ht : s.heap.IsTuple a its.toArray := p
    have D := Draws.tuple (A := X.A.in1) (prog := X.prog) (w := X.w) (I.ok.hd hc) it a hai its.toArray
    have hn : its.toArray.size = i := by simp; omega
    rw [hn] at D
    exact wpAny_pyNext_enum_endD D he ⟨hit, ht⟩ fun h' eb => ⟨rfl, I.turned (t' := s.toks) (fun b o hb q => eb b o hb q) f0 f1 f3 f4 f5⟩
  self := fun A i s Q E st h => let ⟨⟨_, he⟩, _⟩ := st; wpAny_pyIter_enum he h
theorem pi_enumT {X : Cx} {e : Expr} {ta : TA} {p pos tpos : Pos} {elts : List Expr} {kk : Nat} (hg : Gl X "enumerate") (hm : X.mg "enumerate" = none) (ha : PA X [e] ta) (hs : starEach [e] X.env = [(false, eval e X.env)]) :
    PI X (.Tuple elts kk tpos) (.Call (.Name "enumerate" p) [e] [] pos) (fun σ H R => ta σ H fun vs H1 => ∃ a, vs = [.ref a] ∧ ((∃ xs, SqL X.K H1 a xs ∧ R (Ite X.K a) H1) ∨ (∃ xs, SqT X.K H1 a xs ∧ R (IteT X.K a) H1))) := by
  refine ⟨fun pins s σ H R I h => ?_⟩
  refine Call_ (ld_blt I hg hm boot_enumerate (PyProof.Rows.callWith_type1 (thn (ha.run pos pins s σ H _ I h) fun us s1 ⟨vs, H1, I1, r1, q1⟩ => ?_) hs rfl))
  obtain ⟨a, ex, q1⟩ := q1
  subst ex
  cases r1 with
  | cons r rr =>
    cases rr
    cases r
    have fp : ∀ b, b ∈ [s1.heap.objs.size + 1, s1.heap.objs.size] → FpOk X pins H1 b := fun b hb => by
      have e' : b = s1.heap.objs.size + 1 ∨ b = s1.heap.objs.size := by simpa using hb
      have hle : s1.heap.objs.size ≤ b := by
        rcases e' with z | z
        · rw [z]; exact Nat.le_add_right _ _
        · rw [z]; exact Nat.le_refl _
      exact I1.fpOk hle (I1.hok.fresh hle)
    rcases q1 with ⟨xs, hq, q⟩ | ⟨xs, hq, q⟩
    · obtain ⟨its, rv, p', hz⟩ := I1.list hq
      refine call_enumerate_list p'.isList fun h' he hit hsz hk => wpAny_pyIter_enum he ?_
      have I2 : Inv X pins σ H1 { s1 with heap := h' } := I1.kept (t' := s1.toks) hk
      exact ⟨s1.heap.objs.size + 1, [s1.heap.objs.size + 1, s1.heap.objs.size], _, _, H1, rfl, I2, turn_enum a (s1.heap.objs.size + 1) s1.heap.objs.size, ⟨⟨.none, he⟩, hit, Nat.succ_ne_self _⟩, fp, q⟩
    · obtain ⟨its, rv, p', hz⟩ := I1.tuple hq
      have hlt : a < s1.heap.objs.size := p'.lt
      refine call_enum1 (begins_tuple a its.toArray) p' fun h' he ho hsz hk => wpAny_pyIter_enum he ?_
      have I2 : Inv X pins σ H1 { s1 with heap := h' } := I1.kept (t' := s1.toks) hk
      exact ⟨s1.heap.objs.size + 1, [s1.heap.objs.size + 1, s1.heap.objs.size], _, _, H1, rfl, I2, turn_enumT a (s1.heap.objs.size + 1) s1.heap.objs.size, ⟨⟨.none, he⟩, ⟨_, ho, rfl, rfl⟩, Nat.succ_ne_self _, Nat.ne_of_lt hlt, Nat.ne_of_lt (Nat.lt_succ_of_lt hlt)⟩, fp, q⟩
section
variable {X : Cx} {C : Cfg} {a b c ex : Expr} {pos : Pos} {pa pb pc p : pE} {q : pV}
theorem wk_enumT {p : Addr} {ds : List D} : Wk C (IteT C.K p) (enumD ds) [.val (.tup ds)] [.ref p] where
  len := rfl
  go := fun i R hi => by
    have r := R.topV
    cases r with
    | tup sq rs =>
      rw [enumD_len] at hi
      obtain ⟨v, h1, h2⟩ := rs.get (i := i) (d := ds[i]) (by simp [hi])
      exact ⟨_, v, R.sub.tup sq, h1⟩
  stop := fun R => by
    have r := R.topV
    cases r with
    | tup sq rs => exact ⟨_, R.sub.tup sq, by rw [enumD_len, rs.length]⟩
  yld := fun i x H' d R hy hd => by
    have r := R.topV
    cases r with
    | tup sq rs =>
      obtain ⟨y, h1, rfl⟩ := enumD_get hd
      obtain ⟨T, w, rfl, hT, rfl, hw⟩ := hy
      obtain ⟨v, h2, h3⟩ := rs.get h1
      have := hw _ (R.sub.tup sq)
      rw [h2] at this; cases this
      exact .newT hT (.cons (.int _) (.cons h3 .nil))
theorem mi_enumP {elts : List Expr} {kk : Nat} {tpos p : Pos} (hK : X.K = C.K) (hg : Gl X "enumerate") (hm : X.mg "enumerate" = none) (n : notStar a = true) (ha : PE X a (canE C pa)) : PI X (.Tuple elts kk tpos) (.Call (.Name "enumerate" p) [a] [] pos) (canI C (iEnumP pa)) :=
  (pi_enumT hg hm (pa_cons ha pa_nil (star_cons n)) (star_cons n)).up fun σ H R ⟨ts, vs, e, P, R0, h, k⟩ => useF R0 h fun d e1 v H1 ⟨S, R1⟩ ⟨ds, hd, hP⟩ => by
    rw [hK]
    have r := R1.topV
    unfold D.items at hd
    split at hd
    · cases hd
      cases r with
      | tup sq rs => exact ⟨_, rfl, .inr ⟨_, R1.sub.tup sq, k _ _ [_] [_] e1 H1 (show Rep C ([_] ++ ts) ([_] ++ vs) e1 σ H1 from ⟨S, R1⟩) wk_enumT hP⟩⟩
    · cases hd
      cases r with
      | lst sq rs => exact ⟨_, rfl, .inl ⟨_, SqL.of (R1.sub _ _ sq), k _ _ [_] [_] e1 H1 (show Rep C ([_] ++ ts) ([_] ++ vs) e1 σ H1 from ⟨S, R1⟩) (wk_enum fun l r => by cases r with | lst sq rs => exact ⟨_, SqL.of (l _ _ sq), rs⟩) hP⟩⟩
    · cases hd
      cases r with
      | lsq sq rs => exact ⟨_, rfl, .inl ⟨_, R1.sub.seq sq, k _ _ [_] [_] e1 H1 (show Rep C ([_] ++ ts) ([_] ++ vs) e1 σ H1 from ⟨S, R1⟩) (wk_enum fun l r => by cases r with | lsq sq rs => exact ⟨_, l.seq sq, rs⟩) hP⟩⟩
    · cases hd
end
end PL
set_option Elab.async false
set_option linter.all false
set_option maxRecDepth 100000
set_option maxHeartbeats 4000000
/-! PL6: statements, loops, comprehensions, methods of lists, fields, isinstance. -/
namespace PL
open PySem PySem.Spec PyProof.Rows L2

section
variable {X : Cx} {C : Cfg} {a b c ex : Expr} {pos : Pos} {pa pb pc p : pE} {q : pV} {st : Stmt} {sts : List Stmt} {s1 s2 : pS} {pt : pT} {g : pG}
/-- the ends of a statement -/
structure EndsOk (C : Cfg) (ts : List Sv) (vs : List V) (Q : pEnds) (Dn : Ends) : Prop where
  nx : ∀ e' σ' H', Rep C ts vs e' σ' H' → Q.nx e' → Dn.nx σ' H'
  rt : ∀ sv e' v σ' H', Rep C (sv :: ts) (v :: vs) e' σ' H' → Q.rt sv e' → Dn.rt v H'
  bk : ∀ e' σ' H', Rep C ts vs e' σ' H' → Q.bk e' → Dn.bk σ' H'
  ct : ∀ e' σ' H', Rep C ts vs e' σ' H' → Q.ct e' → Dn.ct σ' H'
theorem useS {p : pS} {Dn : Ends} {σ : L2.St} {H : Hp} {ts : List Sv} {vs : List V} {e : PEnv} {Q : pEnds} (R : Rep C ts vs e σ H) (h : p Q e) (k : EndsOk C ts vs Q Dn) : canS C p Dn σ H := ⟨ts, vs, e, Q, R, h, k.nx, k.rt, k.bk, k.ct⟩
theorem S.up {t : TS} {p : pS} (h : PS X st t) (f : ∀ Dn σ H ts vs e Q, Rep C ts vs e σ H → p Q e → EndsOk C ts vs Q Dn → t Dn σ H) : PS X st (canS C p) := h.up fun Dn σ H ⟨ts, vs, e, Q, R, h, k1, k2, k3, k4⟩ => f Dn σ H ts vs e Q R h ⟨k1, k2, k3, k4⟩
theorem B.up {t : TS} {p : pS} (h : PSs X sts t) (f : ∀ Dn σ H ts vs e Q, Rep C ts vs e σ H → p Q e → EndsOk C ts vs Q Dn → t Dn σ H) : PSs X sts (canS C p) := h.up fun Dn σ H ⟨ts, vs, e, Q, R, h, k1, k2, k3, k4⟩ => f Dn σ H ts vs e Q R h ⟨k1, k2, k3, k4⟩
theorem EndsOk.withNx {ts : List Sv} {vs : List V} {Q : pEnds} {Dn : Ends} (k : EndsOk C ts vs Q Dn) {n : PEnv → Prop} {n' : L2.St → Hp → Prop} (h : ∀ e' σ' H', Rep C ts vs e' σ' H' → n e' → n' σ' H') : EndsOk C ts vs { Q with nx := n } { Dn with nx := n' } := ⟨h, k.rt, k.bk, k.ct⟩

theorem mb_nil : PSs X [] (canS C sNext) := B.up pss_nil fun Dn σ H ts vs e Q R h k => k.nx e σ H R h
theorem mb_cons (h1 : PS X st (canS C s1)) (h2 : PSs X sts (canS C s2)) : PSs X (st :: sts) (canS C (sSeq s1 s2)) :=
  B.up (pss_cons h1 h2) fun Dn σ H ts vs e Q R h k => useS R h (k.withNx fun e' σ' H' R' h' => useS R' h' k)
theorem mb_one (h1 : PS X st (canS C s1)) : PSs X [st] (canS C s1) := pss_one h1
theorem ms_pass : PS X (.Pass pos) (canS C sNext) := S.up ps_pass fun Dn σ H ts vs e Q R h k => k.nx e σ H R h
theorem ms_break : PS X (.Break pos) (canS C sBreak) := S.up ps_break fun Dn σ H ts vs e Q R h k => k.bk e σ H R h
theorem ms_continue : PS X (.Continue pos) (canS C sCont) := S.up ps_continue fun Dn σ H ts vs e Q R h k => k.ct e σ H R h
theorem Rep.pop {sv : Sv} {v : V} {ts : List Sv} {vs : List V} {e : PEnv} {σ : L2.St} {H : Hp} (R : Rep C (sv :: ts) (v :: vs) e σ H) : Rep C ts vs e σ H := let ⟨S, R⟩ := R; ⟨S, R.pop⟩
theorem ms_expr (h : ∀ te, PE X a te → PS X st (tDrop te)) (ha : PE X a (canE C pa)) : PS X st (canS C (sDrop pa)) :=
  S.up (h _ ha) fun Dn σ H ts vs e Q R h k => useE R h fun sv e' v H' R' h' => k.nx e' σ H' R'.pop h'
theorem ms_ret (ha : PE X a (canE C pa)) : PS X (.Return (some a) pos) (canS C (sRet pa)) :=
  S.up (ps_ret ha) fun Dn σ H ts vs e Q R h k => useE R h fun sv e' v H' R' h' => k.rt sv e' v σ H' R' h'
theorem ms_retN : PS X (.Return none pos) (canS C (sRet (pC .non))) :=
  S.up ps_retN fun Dn σ H ts vs e Q ⟨S, R⟩ h k => k.rt _ e .non σ H ⟨S, R.pushV .non⟩ h
theorem ms_if {x y : List Stmt} (hc : PT X c (canT C pt)) (ha : PSs X x (canS C s1)) (hb : PSs X y (canS C s2)) : PS X (.If c x y pos) (canS C (sIf pt s1 s2)) :=
  S.up (ps_if hc ha hb) fun Dn σ H ts vs e Q R h k => useT R h fun b e1 H1 R1 h1 => by
    cases b
    · exact useS R1 h1 k
    · exact useS R1 h1 k
theorem ms_asg {tgt : TG} (h : ∀ te, PE X a te → PS X st (tAsg te tgt)) (ht : tgt = canG C anySt g) (ha : PE X a (canE C pa)) : PS X st (canS C (sAsg pa g)) :=
  S.up (h _ ha) fun Dn σ H ts vs e Q R h k => useE R h fun sv e' v H' R' h' => by
    rw [ht]
    exact useG R' h' fun e1 σ1 H1 R1 _ h1 => k.nx e1 σ1 H1 R1 h1
/-- a name's store, where the kit's rule has the name's own target -/
theorem ms_set {i : Nat} (h : ∀ te, PE X a te → PS X st (tAsg te (gName i))) (ha : PE X a (canE C pa)) : PS X st (canS C (sAsg pa (gP i))) :=
  S.up (h _ ha) fun Dn σ H ts vs e Q R h k => useE R h fun sv e' v H' ⟨S, R'⟩ ⟨_, h'⟩ => k.nx _ _ H' ⟨S, R'.store⟩ h'
theorem ms_par {i j : Nat} {r : pA} {x y : Expr} (h : ∀ ta, PA X [x, y] ta → PS X st (tPar i j ta)) (hij : i ≠ j) (ha : PA X [x, y] (canK C r)) : PS X st (canS C (sPar i j r)) :=
  S.up (h _ ha) fun Dn σ H ts vs e Q R h k => ⟨ts, vs, e, _, R, h, fun S ds e' ws H' R' rs h' => by
    split at h'
    · rename_i d1 d2
      cases rs with
      | cons r1 t =>
        cases t with
        | cons r2 t =>
          cases t
          refine ⟨_, _, rfl, ?_⟩
          obtain ⟨_, _, h'⟩ := h'
          exact k.nx _ _ H' ⟨S, (((R'.pushV r2).pushV r1).store.store)⟩ h'
    · exact h'.elim⟩
theorem ms_while {body : List Stmt} (hp : PassesOwn (model X.prog X.w) X.A X.env X.xe) (hc : PT X c (canT C pt)) (hb : PSs X body (canS C s1)) : PS X (.While c body [] pos) (canS C (pWhile pt s1)) :=
  S.up (ps_while hp hc hb) fun Dn σ H ts vs e Q R ⟨W, ⟨m0, w0⟩, turn⟩ k => by
    refine ⟨fun m σ' H' => ∃ e', Rep C ts vs e' σ' H' ∧ W m e', ⟨m0, e, R, w0⟩, fun m σ' H' ⟨e', R', w'⟩ => ?_⟩
    refine useT R' (turn m e' w') fun b e1 H1 R1 h1 => ?_
    cases b
    · exact k.nx e1 σ' H1 R1 h1
    · obtain ⟨N, hN, hb⟩ := h1
      have again : ∀ e2 σ2 H2, Rep C ts vs e2 σ2 H2 → N e2 → (∃ e2, Rep C ts vs e2 σ2 H2 ∧ N e2) := fun e2 _ _ R2 n2 => ⟨e2, R2, n2⟩
      refine ⟨fun σ2 H2 => ∃ e2, Rep C ts vs e2 σ2 H2 ∧ N e2, fun σ2 H2 ⟨e2, R2, n2⟩ => ?_, useS R1 hb ⟨again, k.rt, k.nx, again⟩⟩
      obtain ⟨m', hm, w2⟩ := hN e2 n2
      exact ⟨m', hm, e2, R2, w2⟩
theorem popN {ts kts : List Sv} {vs kvs : List V} {e : PEnv} {σ : L2.St} {H : Hp} {S : Hp} (hl : kts.length = kvs.length) (R : RepAt C S (kts ++ ts) (kvs ++ vs) e σ H) : RepAt C S ts vs e σ H := by
  induction kts generalizing kvs with
  | nil =>
    cases kvs with
    | nil => exact R
    | cons => simp at hl
  | cons t kts ih =>
    cases kvs with
    | nil => simp at hl
    | cons v kvs => exact ih (by simpa using hl) R.pop
theorem ownT_le (a : Addr) : ∀ {kts : List Sv} {kvs : List V}, kts.length = kvs.length → ∀ (ts : List Sv) (vs : List V), ownT a ts vs ≤ ownT a (kts ++ ts) (kvs ++ vs)
  | [], [], _, _, _ => Nat.le_refl _
  | [], _ :: _, h, _, _ => by simp at h
  | _ :: _, [], h, _, _ => by simp at h
  | t :: kts, w :: kvs, h, ts, vs => by
    have := ownT_le a (kts := kts) (kvs := kvs) (by simpa using h) ts vs
    show ownT a ts vs ≤ own1 a t w + ownT a (kts ++ ts) (kvs ++ vs)
    omega
theorem ms_for {tg : Expr} {iter : Expr} {body : List Stmt} {it : pI} (h : ∀ wi gg tb, PI X tg iter wi → PG X tg gg → PSs X body tb → PS X st (tFor wi gg tb)) (hi : PI X tg iter (canI C it)) (hg : PG X tg (canG C anySt g)) (hb : PSs X body (canS C s1)) : PS X st (canS C (pFor it g s1)) :=
  S.up (h _ _ _ hi hg hb) fun Dn σ H ts vs e Q R h k => ⟨ts, vs, e, _, R, h, fun J ds kts kvs e1 H1 R1 wk h1 => by
    refine ⟨fun i m σ' H' => m = ds.length - i ∧ i ≤ ds.length ∧ ∃ e', Rep C (kts ++ ts) (kvs ++ vs) e' σ' H' ∧ forL g s1 (ds.drop i) Q e', ⟨_, rfl, Nat.zero_le _, e1, R1, by rw [List.drop_zero]; exact h1⟩, ?_⟩
    rintro i m σ' H' ⟨rfl, hi, e', ⟨S, R'⟩, h'⟩
    by_cases hlt : i < ds.length
    · have ed : ds.drop i = ds[i] :: ds.drop (i + 1) := List.drop_eq_getElem_cons hlt
      rw [ed] at h'
      refine .inr ⟨wk.go i R' hlt, fun σ2 H2 => ∃ e2, Rep C (kts ++ ts) (kvs ++ vs) e2 σ2 H2 ∧ forL g s1 (ds.drop (i + 1)) Q e2, fun σ2 H2 ⟨e2, R2, h2⟩ => ⟨ds.length - (i + 1), by omega, rfl, hlt, e2, R2, h2⟩, fun x H2 hy => ?_⟩
      have res := wk.yld i x H2 ds[i] R' hy (by simp [hlt])
      obtain ⟨S2, R2⟩ := R'.res res
      refine useG (ts := kts ++ ts) (vs := kvs ++ vs) ⟨S2, R2⟩ h' fun e3 σ3 H3 R3 _ h3 => ?_
      have again : ∀ e2 σ2 H2, Rep C (kts ++ ts) (kvs ++ vs) e2 σ2 H2 → forL g s1 (ds.drop (i + 1)) Q e2 → (∃ e2, Rep C (kts ++ ts) (kvs ++ vs) e2 σ2 H2 ∧ forL g s1 (ds.drop (i + 1)) Q e2) := fun e2 _ _ R2 h2 => ⟨e2, R2, h2⟩
      exact useS R3 h3 ⟨again, fun sv e' v σ' H' ⟨S4, R4⟩ h4 => by
          refine k.rt sv e' v σ' H' ⟨S4, ?_⟩ h4
          have t4 := R4.top
          have R5 := popN wk.len R4.pop
          refine R5.push t4 fun a => ?_
          have d := R4.dist a
          have d : own1 a sv v + ownT a (kts ++ ts) (kvs ++ vs) + ownS a e' σ' ≤ 1 := d
          have le := ownT_le a wk.len ts vs
          omega,
        fun e' σ' H' ⟨S4, R4⟩ h4 => k.nx e' σ' H' ⟨S4, popN wk.len R4⟩ h4, again⟩
    · have ei : i = ds.length := by omega
      subst ei
      rw [List.drop_length] at h'
      exact .inl ⟨wk.stop R', k.nx e' σ' H' ⟨S, popN wk.len R'⟩ h'⟩⟩

/-! ### x[i] += k -/
theorem get_list : PGet X (fun x y H Q => ∃ p xs i v, x = .ref p ∧ y = .int i ∧ 0 ≤ i ∧ H p = some (.lst xs) ∧ atI xs i = some v ∧ Q v H) := by
  intro pins s σ H o i ov iv Q I ro ri h
  obtain ⟨p, xs, k, v, rfl, rfl, h0, hp, he, q⟩ := h
  cases ro
  obtain ⟨t, rfl⟩ := ri
  obtain ⟨its, r, pl, hz⟩ := I.list (SqL.of hp)
  obtain ⟨j, h1, h2, h3, h4, h5⟩ := atI_get he
  obtain ⟨w, ew, rw'⟩ := r.get h2
  have hl := r.length
  have hn := line63
  have hj : k.toNat = j := by
    rw [seqIndex_of h0 h5] at h1
    exact Option.some.inj h1
  exact wpAny_getItem_list pl.isList h0 (by omega) (by rw [hj]; simpa using ew) ⟨v, H, I, rw', q⟩
theorem ms_augIx {i : Nat} (h : ∀ ti te, PE X b ti → PE X c te → PS X st (tAugS (tVar i) ti te (fun x y H Q => ∃ p xs i v, x = .ref p ∧ y = .int i ∧ 0 ≤ i ∧ H p = some (.lst xs) ∧ atI xs i = some v ∧ Q v H) (ipI fun i j => i + j) rSetL)) (hb : PE X b (canE C pb)) (hc : PE X c (canE C pc)) :
    PS X st (canS C (sAugIx i pb pc)) :=
  S.up (h _ _ hb hc) fun Dn σ H ts vs e Q ⟨S0, R⟩ ⟨⟨sv0, hs0, hl0⟩, h⟩ k => by
    obtain ⟨o, ho, _⟩ := R.slot i _ hs0
    refine ⟨o, ho, useF ⟨S0, R⟩ h fun kd e1 w H1 ⟨S1, R1⟩ ⟨z, s1, ds, a, q1, q2, q3, q4, q5, h1⟩ => ?_⟩
    subst q1
    have rw1 := R1.topV
    cases rw1
    have R1 := R1.pop
    obtain ⟨p, xs, ha, hx, rs, _⟩ := R1.addr q3 q4
    rw [ho] at ha; cases ha
    obtain ⟨v, e5, r5⟩ := rs.atI q5
    cases r5
    refine ⟨p, xs, z, _, rfl, rfl, q2, hx, e5, useF ⟨S1, R1⟩ h1 fun yd e2 w2 H2 ⟨S2, R2⟩ ⟨c, s2, ds2, j, q6, q7, q8, q9, h2⟩ => ?_⟩
    subst q6
    have rw2 := R2.topV
    cases rw2
    have R2 := R2.pop
    obtain ⟨p2, xs2, ha2, hx2, rs2, kk2⟩ := R2.addr q7 q8
    rw [ho] at ha2; cases ha2
    refine ⟨a, c, rfl, rfl, p, xs2, z, j, rfl, rfl, hx2, by rw [← rs2.length]; exact q9, ?_⟩
    exact k.nx _ σ _ ⟨S2, kk2 _ _ (rs2.set (.int _) j)⟩ h2

/-! ### methods of a list that a slot holds -/
theorem me_append {i : Nat} (h : ∀ t, PE X b t → PE X ex (tBM X.K "list" rAppend (tVar i) (tCons t tNil))) (hb : PE X b (canE C pb)) : PE X ex (canE C (pAppend i pb)) :=
  (h _ hb).up fun σ H Q ⟨ts, vs, e, P, ⟨S, R⟩, ⟨⟨s0, hs0, hl0⟩, h⟩, k⟩ => by
    obtain ⟨ds0, hd0⟩ := Option.isSome_iff_exists.mp hl0
    obtain ⟨p, xs, ha, hx, rs, _⟩ := R.addr hs0 hd0
    refine ⟨_, ha, .inl ⟨rfl, _, SqL.of hx⟩, useF ⟨S, R⟩ h fun d e1 w H1 ⟨S1, R1⟩ ⟨s1, ds, q1, q2, q3, hP⟩ => ?_⟩
    have rd := R1.topV
    obtain ⟨p2, xs2, ha2, hx2, rs2, kk⟩ := R1.pop.addr q1 q2
    rw [ha] at ha2; cases ha2
    exact ⟨p, xs2, w, rfl, rfl, hx2, by rw [← rs2.length]; exact q3, k _ _ .non _ ⟨S1, (kk _ _ (rs2.append (.cons rd .nil))).pushV .non⟩ hP⟩
theorem me_pop {i : Nat} (h : PE X ex (tBM0 X.K "list" rPop (tVar i))) : PE X ex (canE C (pPop i)) :=
  h.up fun σ H Q ⟨ts, vs, e, P, ⟨S, R⟩, ⟨s0, ds, d, hs0, hd0, hg, hP⟩, k⟩ => by
    obtain ⟨p, xs, ha, hx, rs, kk⟩ := R.addr hs0 hd0
    obtain ⟨v, e1, r1⟩ := rs.get hg
    rw [rs.length] at e1
    exact ⟨_, ha, .inl ⟨rfl, _, SqL.of hx⟩, p, xs, v, rfl, rfl, hx, e1, k _ _ v _ ⟨S, (kk _ _ rs.dropLast).pushV r1⟩ hP⟩
theorem me_popAt {i : Nat} (h : ∀ t, PE X b t → PE X ex (tBM X.K "list" rPopAt (tVar i) (tCons t tNil))) (hb : PE X b (canE C pb)) : PE X ex (canE C (pPopAt i pb)) :=
  (h _ hb).up fun σ H Q ⟨ts, vs, e, P, ⟨S, R⟩, ⟨⟨s0, hs0, hl0⟩, h⟩, k⟩ => by
    obtain ⟨ds0, hd0⟩ := Option.isSome_iff_exists.mp hl0
    obtain ⟨p, xs, ha, hx, rs, _⟩ := R.addr hs0 hd0
    refine ⟨_, ha, .inl ⟨rfl, _, SqL.of hx⟩, useF ⟨S, R⟩ h fun d e1 w H1 ⟨S1, R1⟩ ⟨s1, ds, j, kx, dx, q1, q2, q3, q4, q5, q6, hP⟩ => ?_⟩
    subst q3
    have rd := R1.topV
    cases rd
    obtain ⟨p2, xs2, ha2, hx2, rs2, kk⟩ := R1.pop.addr q1 q2
    rw [ha] at ha2; cases ha2
    obtain ⟨v, e6, r6⟩ := rs2.get q6
    exact ⟨p, xs2, j, kx, v, rfl, rfl, hx2, q4.1, q4.2, by rw [← rs2.length]; exact q5, e6, k _ _ v _ ⟨S1, (kk _ _ (rs2.eraseIdx kx)).pushV r6⟩ hP⟩

/-! ### isinstance of a value -/
theorem Ra.ty {K : PySem.W.Frag} {mg : Str → Option Value} {S H : Hp} {d : D} {v : V} {n : String} (l : Le S H) (r : Ra K mg S H d v) (h : tyName d = some n) : TyX K H v (.type n) := by
  cases d with
  | non => cases h; rw [r.non]; exact .base .non
  | bl b => cases h; rw [r.bl]; exact .base (.bl b)
  | int b => cases h; rw [r.int]; exact .base (.int b)
  | str b => cases h; rw [r.str]; exact .base (.str b)
  | tup ds =>
    cases h
    obtain ⟨a, xs, rfl, hq, _, _⟩ := r.tup l
    rcases hq with (hq | ⟨o, hq⟩) | ⟨o, its, n, hk, hc, hd, hz, rv⟩
    · exact .base (.tup hq)
    · exact .fTuple hq
    · exact .kTuple hk hc
  | lst ds =>
    cases h
    obtain ⟨a, xs, rfl, hq, _⟩ := r.lst l
    exact .base (.lst hq)
  | lsq ds => cases h
  | obj c fs => cases h
theorem me_isi {T : String} {x2 : Expr} (hK : X.K = C.K) (h : ∀ ta, PA X [a, x2] ta → PE X ex (tCB (rIsi X.K) ta)) (n : notStar a = true) (n2 : notStar x2 = true) (ha : PE X a (canP C q)) (h2 : PE X x2 (tC (.ty T))) : PE X ex (canE C (pIsi T q)) :=
  (h _ (pa_cons ha (pa_cons h2 pa_nil (star_cons n2)) (star_cons n))).up fun σ H Q ⟨ts, vs, e, P, R, h, k⟩ => useP R h fun S d e1 v H1 R1 rd ⟨nm, bb, e2, e3, hP⟩ =>
    ⟨v, .ty T, .type nm, .type T, bb, rfl, .ty T, by rw [hK]; exact rd.ty R1.sub e2, kit_ty e3, k _ e1 _ H1 ⟨S, R1.pushV (.bl _)⟩ hP⟩

/-! ### comprehensions -/
theorem wipeP_len (e : PEnv) : ∀ vs, (wipeP e vs).length = e.length
  | [] => rfl
  | v :: vs => by unfold wipeP; rw [List.length_set, wipeP_len e vs]
theorem RepAt.wipe {S : Hp} {ts : List Sv} {vs : List V} {e : PEnv} {σ : L2.St} {H : Hp} (R : RepAt C S ts vs e σ H) : ∀ own, RepAt C S ts vs (wipeP e own) (L2.wipe σ own) H
  | [] => R
  | v :: own => (RepAt.wipe R own).forget none
/-- what is said of the wiped slots holds of the slots, too -/
theorem RepAt.unwipe {S : Hp} {ts : List Sv} {vs : List V} {e : PEnv} {σ : L2.St} {H : Hp} {own : List Nat} (R : RepAt C S ts vs e (L2.wipe σ own) H) : RepAt C S ts vs (wipeP e own) σ H := by
  have sub : ∀ (i : Nat) v, (L2.wipe σ own)[i]? = some (some v) → σ[i]? = some (some v) := fun i v h => (wipe_some h).1
  have key : ∀ (i : Nat) sv, (wipeP e own)[i]? = some (some sv) → e[i]? = some (some sv) ∧ i ∉ own := by
    intro i sv
    clear R sub
    induction own with
    | nil => intro h; exact ⟨h, by simp⟩
    | cons w own ih =>
      intro h
      unfold wipeP at h
      rw [List.getElem?_set] at h
      by_cases z : w = i
      · rw [if_pos z] at h; split at h <;> cases h
      · rw [if_neg z] at h
        obtain ⟨h1, h2⟩ := ih h
        exact ⟨h1, by simp [Ne.symm z, h2]⟩
  have dist : ∀ a, ownS a (wipeP e own) σ ≤ ownS a e (L2.wipe σ own) := fun a => by
    have hl := R.len
    rw [wipe_length] at hl
    clear R sub key
    suffices ∀ (e : PEnv) (σ : L2.St) (τ : L2.St) (f : PEnv), f.length = e.length → τ.length = σ.length → e.length = σ.length → (∀ (i : Nat) sv, f[i]? = some (some sv) → e[i]? = some (some sv) ∧ τ[i]? = σ[i]?) → ownS a f σ ≤ ownS a e τ by
      refine this e σ (L2.wipe σ own) (wipeP e own) (wipeP_len _ _) (wipe_length _ _) hl fun i sv h => ?_
      have key : e[i]? = some (some sv) ∧ i ∉ own := by
        clear hl this
        induction own with
        | nil => exact ⟨h, by simp⟩
        | cons w own ih =>
          unfold wipeP at h
          rw [List.getElem?_set] at h
          by_cases z : w = i
          · rw [if_pos z] at h; split at h <;> cases h
          · rw [if_neg z] at h
            obtain ⟨h1, h2⟩ := ih h
            exact ⟨h1, by simp [Ne.symm z, h2]⟩
      exact ⟨key.1, wipe_out key.2⟩
    intro e
    induction e with
    | nil =>
      intro σ τ f h1 h2 h3 h4
      have : f = [] := List.length_eq_zero_iff.mp h1
      subst this
      simp [ownS]
    | cons x e ih =>
      intro σ τ f h1 h2 h3 h4
      cases σ with
      | nil => simp at h3
      | cons y σ =>
        cases τ with
        | nil => simp at h2
        | cons z τ =>
          cases f with
          | nil => simp at h1
          | cons w f =>
            have r := ih σ τ f (by simpa using h1) (by simpa using h2) (by simpa using h3) (fun i sv h => by simpa using h4 (i + 1) sv (by simpa using h))
            show ownO a w y + ownS a f σ ≤ ownO a x z + ownS a e τ
            have : ownO a w y ≤ ownO a x z := by
              cases w with
              | none => simp [ownO]
              | some sv =>
                obtain ⟨q1, q2⟩ := h4 0 sv rfl
                simp at q1 q2
                subst q1; subst q2
                exact Nat.le_refl _
            omega
  exact {
    sub := R.sub, ext := R.ext, new := R.new, fr := R.fr, rf := R.rf, tmp := R.tmp
    len := by rw [wipeP_len, R.len, wipe_length]
    slot := fun i sv h => by
      obtain ⟨h1, h2⟩ := key i sv h
      obtain ⟨v, h3, h4⟩ := R.slot i sv h1
      exact ⟨v, sub i v h3, h4⟩
    dist := fun a => by have := dist a; have := R.dist a; omega }
theorem wipe_comm : ∀ (own : List Nat) (v : Nat) (τ : L2.St), L2.wipe (τ.set v none) own = (L2.wipe τ own).set v none
  | [], _, _ => rfl
  | w :: own, v, τ => by
    show (L2.wipe (τ.set v none) own).set w none = ((L2.wipe τ own).set w none).set v none
    rw [wipe_comm own v τ]
    by_cases z : w = v
    · subst z; rfl
    · rw [List.set_comm _ _ (Ne.symm z)]
theorem wipe_wipe (σ : L2.St) : ∀ own : List Nat, L2.wipe (L2.wipe σ own) own = L2.wipe σ own
  | [] => rfl
  | v :: own => by
    show (L2.wipe ((L2.wipe σ own).set v none) own).set v none = (L2.wipe σ own).set v none
    rw [wipe_comm, wipe_wipe σ own, List.set_set]
theorem wipeP_comm : ∀ (own : List Nat) (v : Nat) (τ : PEnv), wipeP (τ.set v none) own = (wipeP τ own).set v none
  | [], _, _ => rfl
  | w :: own, v, τ => by
    show (wipeP (τ.set v none) own).set w none = ((wipeP τ own).set w none).set v none
    rw [wipeP_comm own v τ]
    by_cases z : w = v
    · subst z; rfl
    · rw [List.set_comm _ _ (Ne.symm z)]
theorem wipeP_wipeP (σ : PEnv) : ∀ own : List Nat, wipeP (wipeP σ own) own = wipeP σ own
  | [] => rfl
  | v :: own => by
    show (wipeP ((wipeP σ own).set v none) own).set v none = (wipeP σ own).set v none
    rw [wipeP_comm, wipeP_wipeP σ own, List.set_set]
theorem wipe_set {i : Nat} {x : Option V} : ∀ {own : List Nat} {σ : L2.St}, i ∈ own → L2.wipe (σ.set i x) own = L2.wipe σ own
  | w :: own, σ, h => by
    show (L2.wipe (σ.set i x) own).set w none = (L2.wipe σ own).set w none
    by_cases z : i ∈ own
    · rw [wipe_set z]
    · have e : i = w := by rcases List.mem_cons.mp h with e | e; exact e; exact absurd e z
      subst e
      have : ∀ (own : List Nat) (τ : L2.St), (L2.wipe (τ.set i x) own).set i none = (L2.wipe τ own).set i none := by
        intro own
        induction own with
        | nil => intro τ; show (τ.set i x).set i none = τ.set i none; rw [List.set_set]
        | cons w own ih =>
          intro τ
          show ((L2.wipe (τ.set i x) own).set w none).set i none = ((L2.wipe τ own).set w none).set i none
          by_cases q : w = i
          · subst q; rw [List.set_set, List.set_set]; exact ih τ
          · rw [List.set_comm _ _ q, ih τ, List.set_comm _ _ q]
      exact this own σ
theorem paired_app {α β : Type} {F : α → β → Prop} : ∀ {l1 : List α} {r1 : List β} {l2 : List α} {r2 : List β}, Paired F l1 r1 → Paired F l2 r2 → Paired F (l1 ++ l2) (r1 ++ r2)
  | _, _, _, _, .nil, q => q
  | _, _, _, _, .cons h t, q => .cons h (paired_app t q)
theorem paired_split {α β : Type} {F : α → β → Prop} : ∀ {l1 : List α} {r1 : List β} {l2 : List α} {r2 : List β}, l1.length = r1.length → Paired F (l1 ++ l2) (r1 ++ r2) → Paired F l1 r1 ∧ Paired F l2 r2
  | [], [], _, _, _, q => ⟨.nil, q⟩
  | [], _ :: _, _, _, h, _ => by simp at h
  | _ :: _, [], _, _, h, _ => by simp at h
  | _ :: _, _ :: _, _, _, h, q => by
    cases q with
    | cons u q =>
      obtain ⟨q1, q2⟩ := paired_split (by simpa using h) q
      exact ⟨.cons u q1, q2⟩
theorem ownT_app (a : Addr) : ∀ {kts : List Sv} {kvs : List V}, kts.length = kvs.length → ∀ (ts : List Sv) (vs : List V), ownT a (kts ++ ts) (kvs ++ vs) = ownT a kts kvs + ownT a ts vs
  | [], [], _, _, _ => by simp [ownT]
  | [], _ :: _, h, _, _ => by simp at h
  | _ :: _, [], h, _, _ => by simp at h
  | t :: kts, w :: kvs, h, ts, vs => by
    have := ownT_app a (kts := kts) (kvs := kvs) (by simpa using h) ts vs
    show own1 a t w + ownT a (kts ++ ts) (kvs ++ vs) = own1 a t w + ownT a kts kvs + ownT a ts vs
    omega
theorem RepAt.tmps {S : Hp} {ts ts' : List Sv} {vs vs' : List V} {e : PEnv} {σ : L2.St} {H : Hp} (R : RepAt C S ts vs e σ H) (t : Paired (SvRep C S H) ts' vs') (d : ∀ a, ownT a ts' vs' ≤ ownT a ts vs) : RepAt C S ts' vs' e σ H :=
  { R with tmp := t, dist := fun a => by have := d a; have := R.dist a; omega }
/-- a temporary behind others, ahead of others -/
theorem RepAt.deep {S : Hp} {kts ts : List Sv} {kvs vs : List V} {t : Sv} {v : V} {e : PEnv} {σ : L2.St} {H : Hp} (wl : kts.length = kvs.length) (R : RepAt C S (t :: (kts ++ ts)) (v :: (kvs ++ vs)) e σ H) : RepAt C S (kts ++ (t :: ts)) (kvs ++ (v :: vs)) e σ H := by
  have tm := R.tmp
  cases tm with
  | cons t0 t1 =>
    obtain ⟨q1, q2⟩ := paired_split wl t1
    refine R.tmps (paired_app q1 (.cons t0 q2)) fun a => ?_
    have e1 := ownT_app a wl (t :: ts) (v :: vs)
    have e2 := ownT_app a wl ts vs
    have e3 : ownT a (t :: ts) (v :: vs) = own1 a t v + ownT a ts vs := rfl
    have e4 : ownT a (t :: (kts ++ ts)) (v :: (kvs ++ vs)) = own1 a t v + ownT a (kts ++ ts) (kvs ++ vs) := rfl
    omega
theorem RepAt.shallow {S : Hp} {kts ts : List Sv} {kvs vs : List V} {t : Sv} {v : V} {e : PEnv} {σ : L2.St} {H : Hp} (wl : kts.length = kvs.length) (R : RepAt C S (kts ++ (t :: ts)) (kvs ++ (v :: vs)) e σ H) : RepAt C S (t :: (kts ++ ts)) (v :: (kvs ++ vs)) e σ H := by
  obtain ⟨q1, q2⟩ := paired_split wl R.tmp
  cases q2 with
  | cons t0 t1 =>
    refine R.tmps (.cons t0 (paired_app q1 t1)) fun a => ?_
    have e1 := ownT_app a wl (t :: ts) (v :: vs)
    have e2 := ownT_app a wl ts vs
    have e3 : ownT a (t :: ts) (v :: vs) = own1 a t v + ownT a ts vs := rfl
    have e4 : ownT a (t :: (kts ++ ts)) (v :: (kvs ++ vs)) = own1 a t v + ownT a (kts ++ ts) (kvs ++ vs) := rfl
    omega
/-- the object of a temporary is changed -/
theorem RepAt.changeT {S : Hp} {ts : List Sv} {vs : List V} {e : PEnv} {σ : L2.St} {H : Hp} {D : Addr} {m : M} (R : RepAt C S (.own m :: ts) (.ref D :: vs) e σ H) :
    MRep C S H D m ∧ ∀ (o : HO) (m' : M), MRep C S (upd H D o) D m' → RepAt C S (.own m' :: ts) (.ref D :: vs) e σ (upd H D o) := by
  obtain ⟨D', e', h0, hs, hr⟩ := R.top
  cases e'
  refine ⟨hr, fun o m' hn => ?_⟩
  have dd : ∀ a, (if D = a then 1 else 0) + ownT a ts vs + ownS a e σ ≤ 1 := fun a => R.dist a
  have R0 : RepAt C S ts vs e σ (upd H D o) := R.pop.mono (Le.refl S) (fun a u q => by rw [upd_ne (fun z => by subst z; rw [hs] at q; cases q)]; exact R.sub _ _ q) R.new
    (fun a u q r => by rw [upd_ne (fun z => by subst z; rw [h0] at q; cases q)]; exact R.fr _ _ q r)
    (fun a r => by
      by_cases z : a = D
      · subst z; exact ⟨o, upd_same⟩
      · rw [upd_ne z]; exact R.rf a r)
    (fun a q => by
      have z : a ≠ D := fun z => by subst z; have := dd a; rw [if_pos rfl] at this; omega
      exact ⟨upd_ne z, (R.pop.held q).2.1⟩)
  exact R0.push ⟨D, rfl, h0, hs, hn⟩ dd
/-- the object of a temporary in the middle is changed -/
theorem change_mid {S : Hp} {kts ts : List Sv} {kvs vs : List V} {e : PEnv} {σ : L2.St} {H : Hp} {D : Addr} {acc : List PL.D} (wl : kts.length = kvs.length) (R : RepAt C S (kts ++ (.own (.lst acc) :: ts)) (kvs ++ (.ref D :: vs)) e σ H) :
    ∃ xs, H D = some (.lst xs) ∧ RpL C.K C.mg S acc xs ∧ ∀ ds' xs', RpL C.K C.mg S ds' xs' → RepAt C S (kts ++ (.own (.lst ds') :: ts)) (kvs ++ (.ref D :: vs)) e σ (upd H D (.lst xs')) := by
  obtain ⟨⟨xs, h1, h2⟩, k⟩ := (R.shallow wl).changeT
  exact ⟨xs, h1, h2, fun ds' xs' rs => (k (.lst xs') (.lst ds') ⟨xs', upd_same, rs⟩).deep wl⟩
theorem lc_can {it : pI} {pp : pE} {own : List Nat} {σ : L2.St} {H : Hp} {Q : VK} (h : canE C (pLc it g pt pp own) σ H Q) : tLc (canI C it) (canG C (fun σ τ => L2.wipe τ own = L2.wipe σ own) g) (canT C pt) (canE C pp) own σ H Q := by
  obtain ⟨ts, vs, e, P, R, h, k⟩ := h
  refine ⟨ts, vs, e, _, R, h, fun J ds kts kvs e1 H1 R1 wk h1 D hD => ?_⟩
  refine ⟨fun i m H' => m = ds.length - i ∧ i ≤ ds.length ∧ ∃ e' acc S, RepAt C S (kts ++ (.own (.lst acc) :: ts)) (kvs ++ (.ref D :: vs)) (wipeP e' own) (L2.wipe σ own) H' ∧ lcL g pt pp own (ds.drop i) acc e' (fun acc e2 => P (.own (.lst acc)) (wipeP e2 own)), ?_, ?_⟩
  · obtain ⟨S1, R1⟩ := R1
    refine ⟨_, rfl, Nat.zero_le _, e1, [], S1, ?_, by rw [List.drop_zero]; exact h1⟩
    exact (((R1.pushL (ds := []) (xs := []) hD .nil).wipe own)).deep wk.len
  · rintro i m H' ⟨rfl, hi, e', acc, S, R', h'⟩
    by_cases hlt : i < ds.length
    · have ed : ds.drop i = ds[i] :: ds.drop (i + 1) := List.drop_eq_getElem_cons hlt
      rw [ed] at h'
      refine .inr ⟨wk.go i R' hlt, fun H2 => ∃ e2 acc S, RepAt C S (kts ++ (.own (.lst acc) :: ts)) (kvs ++ (.ref D :: vs)) (wipeP e2 own) (L2.wipe σ own) H2 ∧ lcL g pt pp own (ds.drop (i + 1)) acc e2 (fun acc e2 => P (.own (.lst acc)) (wipeP e2 own)), fun H2 h2 => ⟨ds.length - (i + 1), by omega, rfl, hlt, h2⟩, fun x H2 hy => ?_⟩
      have res := wk.yld i x H2 ds[i] R' hy (by simp [hlt])
      obtain ⟨S2, R2⟩ := R'.res res
      refine useG (ts := kts ++ (.own (.lst acc) :: ts)) (vs := kvs ++ (.ref D :: vs)) ⟨S2, R2⟩ h' fun e3 σ3 H3 R3 r3 h3 => ?_
      rw [wipe_wipe] at r3
      have r3 : L2.wipe σ3 own = L2.wipe σ own := r3
      refine ⟨r3, useT R3 h3 fun b e4 H4 R4 h4 => ?_⟩
      cases b
      · obtain ⟨S4, R4⟩ := R4
        have R5 := R4.wipe own
        rw [r3] at R5
        exact ⟨e4, acc, S4, R5, h4⟩
      · refine useF R4 h4 fun d e5 y H5 ⟨S5, R5⟩ ⟨hz, h5⟩ => ?_
        -- the list that is made
        have R6 := R5.wipe own
        rw [r3] at R6
        obtain ⟨xs, hx, rs, fin⟩ : ∃ xs, H5 D = some (.lst xs) ∧ RpL C.K C.mg S5 acc xs ∧ ∀ ds' xs', RpL C.K C.mg S5 ds' xs' → RepAt C S5 (kts ++ (.own (.lst ds') :: ts)) (kvs ++ (.ref D :: vs)) (wipeP e5 own) (L2.wipe σ own) (upd H5 D (.lst xs')) := change_mid wk.len R6.pop
        exact ⟨xs, hx, by rw [← rs.length]; exact hz, e5, acc ++ [d], S5, fin _ _ (rs.append (.cons R6.topV .nil)), h5⟩
    · have ei : i = ds.length := by omega
      subst ei
      rw [List.drop_length] at h'
      refine .inl ⟨wk.stop R', ?_⟩
      have R2 := (popN wk.len R').unwipe
      rw [wipeP_wipeP] at R2
      exact k _ _ _ H' ⟨S, R2⟩ h'
end
end PL
set_option Elab.async false
set_option linter.all false
set_option maxRecDepth 100000
set_option maxHeartbeats 4000000
/-! PL7: defs that promise what their reading tells; calls of them. -/
namespace PL
open PySem PySem.Spec PyProof.Rows L2

/-- what a def's reading promises, in the kit's words. m: what the borrowed first argument (at r) holds -/
def refRep (K : PySem.W.Frag) (mg : Str → Option Value) (S H : Hp) : Option Addr → Option M → Prop
  | none, none => True
  | some a, some m => S a = none ∧ MRep ⟨K, mg, S, H, none, none⟩ S H a m
  | _, _ => False
def refAdd (r : Option Addr) (ws : List V) : List V := match r with
  | none => ws
  | some a => .ref a :: ws
abbrev cfg0 (K : PySem.W.Frag) (mg : Str → Option Value) (S H : Hp) (r : Option Addr) : Cfg := ⟨K, mg, S, H, r, none⟩
/-- an exception that is told -/
def ExnAt (C : Cfg) (S : Hp) (x : Exn) (cls : Value) (d : Option Addr) : Prop := ∃ cl dd gs, C.mg x.cls = some (.ref cl) ∧ cls = .ref cl ∧ d = some dd ∧ S dd = some (.xd gs) ∧ RpF C.K C.mg S x.fs gs
def l2sp (K : PySem.W.Frag) (mg : Str → Option Value) (sp : PSp) : Sp := fun vs H Q E => ∃ (S : Hp) (r : Option Addr) (m : Option M) (ds : List D) (ws : List V) (P : Sv → Option M → Prop) (PX : Exn → Option M → Prop),
  Le S H ∧ vs = refAdd r ws ∧ RpL K mg S ds ws ∧ refRep K mg S H r m ∧ sp m ds P PX ∧
  (∀ z m' v H' S', RepAt (cfg0 K mg S H r) S' [z] [v] [] [] H' → refRep K mg S' H' r m' → P z m' → Q v H') ∧
  (∀ x m' cls d H' S', RepAt (cfg0 K mg S H r) S' [] [] [] [] H' → refRep K mg S' H' r m' → ExnAt (cfg0 K mg S H r) S' x cls d → PX x m' → E cls d H')
/-- how an exception lies to a body's reading -/
def canX (C : Cfg) (xc : XC) : WX := fun cls d σ H => ∃ ts vs e x S, RepAt C S ts vs e σ H ∧ ExnAt C S x cls d ∧ xc x e

section
variable {X : Cx} {C : Cfg} {a b c ex : Expr} {pos : Pos} {pa pb pc p : pE} {q : pV} {xc : XC}
theorem takes_no {X : Cx} : Takes X (canX C fun _ _ => False) := fun _ _ x => by
  obtain ⟨_, _, _, _, _, _, _, _, _, _, _, _, _, _, _, _, z⟩ := x
  obtain ⟨_, _, _, _, _, _, _, z⟩ := z
  exact z.elim
theorem MRep.cfg {C C' : Cfg} {S H : Hp} {a : Addr} {m : M} (hK : C.K = C'.K) (hm : C.mg = C'.mg) (h : MRep C S H a m) : MRep C' S H a m := by
  cases m with
  | lst ds => obtain ⟨xs, h1, h2⟩ := h; exact ⟨xs, h1, by rw [← hK, ← hm]; exact h2⟩
  | ins c fs => obtain ⟨cl, dx, gs, h0, h1, h2⟩ := h; exact ⟨cl, dx, gs, by rw [← hm]; exact h0, h1, by rw [← hK, ← hm]; exact h2⟩
/-- a slot forgotten, its value as it is -/
theorem RepAt.drop {S H : Hp} {ts : List Sv} {vs : List V} {e : PEnv} {σ : L2.St} {i : Nat} (R : RepAt C S ts vs e σ H) : RepAt C S ts vs (e.set i none) σ H where
  sub := R.sub
  ext := R.ext
  new := R.new
  fr := R.fr
  rf := R.rf
  tmp := R.tmp
  len := by rw [List.length_set]; exact R.len
  slot := fun j s z => by
    rw [List.getElem?_set] at z
    by_cases w : i = j
    · rw [if_pos w] at z; split at z <;> cases z
    · rw [if_neg w] at z; exact R.slot j s z
  dist := fun a => by
    have d := R.dist a
    have : ownS a (e.set i none) σ ≤ ownS a e σ := by
      have : ∀ (e : PEnv) (σ : L2.St) (i : Nat), ownS a (e.set i none) σ ≤ ownS a e σ := by
        intro e
        induction e with
        | nil => intro σ i; simp [ownS]
        | cons x e ih =>
          intro σ i
          cases σ with
          | nil => cases i <;> simp [ownS]
          | cons y σ =>
            cases i with
            | zero =>
              show ownO a none y + ownS a e σ ≤ ownO a x y + ownS a e σ
              simp [ownO]
            | succ i =>
              have := ih σ i
              show ownO a x y + ownS a (e.set i none) σ ≤ ownO a x y + ownS a e σ
              omega
      exact this e σ i
    omega
theorem RepAt.put {S H : Hp} {ts : List Sv} {vs : List V} {e : PEnv} {σ : L2.St} {i : Nat} {sv sv0 : Sv} {v : V} (R : RepAt C S ts vs (e.set i none) σ H) (q : e[i]? = some (some sv0)) (qv : σ[i]? = some (some v)) (r : SvRep C S H sv v)
    (hd : ∀ a, own1 a sv v + ownT a ts vs + ownS a (e.set i none) σ ≤ 1) : RepAt C S ts vs (e.set i (some sv)) σ H where
  sub := R.sub
  ext := R.ext
  new := R.new
  fr := R.fr
  rf := R.rf
  tmp := R.tmp
  len := by have := R.len; rw [List.length_set] at this ⊢; exact this
  slot := fun j s z => by
    rw [List.getElem?_set] at z
    by_cases w : i = j
    · subst w
      rw [if_pos rfl] at z
      split at z
      · cases z; exact ⟨v, qv, r⟩
      · cases z
    · rw [if_neg w] at z
      exact R.slot j s (by rw [List.getElem?_set, if_neg w]; exact z)
  dist := fun a => by
    have h1 := ownS_rm a (some sv) e σ i sv0 v q qv
    have h2 := ownS_rm a none e σ i sv0 v q qv
    have h1 : ownS a (e.set i (some sv)) σ + own1 a sv0 v = ownS a e σ + own1 a sv v := h1
    have h2 : ownS a (e.set i none) σ + own1 a sv0 v = ownS a e σ + 0 := h2
    have := hd a
    omega
/-- behind a call: what the caller holds, the borrowed object aside -/
theorem RepAt.afterR {S S' H H' : Hp} {ts us : List Sv} {vs ws : List V} {e : PEnv} {σ : L2.St} {r : Option Addr} (R : RepAt C S ts vs e σ H) (F : RepAt (cfg0 C.K C.mg S H r) S' us ws [] [] H')
    (hr : ∀ p, r = some p → ownT p ts vs + ownS p e σ = 0 ∧ (C.H0 p = none ∨ C.R = some p)) : RepAt C S' ts vs e σ H' := by
  refine R.mono F.ext F.sub (fun b u q => ?_) (fun b u q z => ?_) (fun b z => ?_) (fun b q => ?_)
  · rcases F.new b u q with ⟨o', z⟩ | z
    · exact R.new b o' z
    · exact .inr (R.free0 z)
  · refine F.fr b u (R.fr b u q z) fun w => ?_
    rcases (hr b w).2 with w | w
    · rw [q] at w; cases w
    · exact z w
  · by_cases w : r = some b
    · exact F.rf b w
    · obtain ⟨o, ho⟩ := R.rf b z
      exact ⟨o, F.fr b o ho w⟩
  · obtain ⟨⟨o, ho⟩, hs, _⟩ := R.held q
    have w : r ≠ some b := fun w => by have := (hr b w).1; omega
    refine ⟨(F.fr b o ho w).trans ho.symm, ?_⟩
    cases x : S' b with
    | none => rfl
    | some u =>
      rcases F.new b u x with ⟨o', z⟩ | z
      · have z : S b = some o' := z; rw [hs] at z; cases z
      · have z : H b = none := z; rw [ho] at z; cases z
/-- what is handed back -/
def isOut : Sv → Prop
  | .val _ => True
  | .own _ => True
  | _ => False
theorem SvRep.out {S S' H H' : Hp} {ts : List Sv} {vs : List V} {e : PEnv} {σ : L2.St} {r : Option Addr} {z : Sv} {v : V} (R : RepAt C S ts vs e σ H) (hz : isOut z) (h : SvRep (cfg0 C.K C.mg S H r) S' H' z v) : SvRep C S' H' z v ∧ ∀ a, own1 a z v = 1 → H a = none := by
  cases z with
  | val d => exact ⟨h, fun a q => by rw [own1_val] at q; cases q⟩
  | own m =>
    obtain ⟨a, rfl, h0, h1, h2⟩ := h
    refine ⟨⟨a, rfl, R.free0 h0, h1, h2.cfg rfl rfl⟩, fun b q => ?_⟩
    by_cases z : a = b
    · subst z; exact h0
    · simp [own1, z] at q
  | bor m => exact hz.elim
  | exn x => exact hz.elim
theorem RepAt.out {S S' H H' : Hp} {ts : List Sv} {vs : List V} {e e0 : PEnv} {σ σ0 : L2.St} {r : Option Addr} {z : Sv} {v : V} (R0 : RepAt C S ts vs e0 σ0 H) (R : RepAt C S' ts vs e σ H') (hz : isOut z) (h : SvRep (cfg0 C.K C.mg S H r) S' H' z v)
    (hh : ∀ a, ownT a ts vs + ownS a e σ = 1 → ∃ o, H a = some o) : RepAt C S' (z :: ts) (v :: vs) e σ H' := by
  obtain ⟨h1, h2⟩ := h.out R0 hz
  refine R.push h1 fun a => ?_
  have d := R.dist a
  have l := own1_le a z v
  by_cases q : own1 a z v = 1
  · by_cases w : ownT a ts vs + ownS a e σ = 1
    · obtain ⟨o, ho⟩ := hh a w
      rw [h2 a q] at ho; cases ho
    · omega
  · omega

/-- a call without a borrowed argument -/
def pCall (sp : PSp) (xc : XC) (r : pA) : pE := fun e P => r e fun ds e1 => sp none ds (fun z _ => isOut z ∧ P z e1) (fun x _ => xc x e1)
/-- a call whose first argument, slot i, is borrowed -/
def pCallR (sp : PSp) (xc : XC) (i : Nat) (r : pA) : pE := fun e P => (∃ sv m, e[i]? = some (some sv) ∧ isHeld sv m) ∧ r e fun ds e1 => ∃ sv m, e1[i]? = some (some sv) ∧ isHeld sv m ∧
  sp (some m) ds (fun z m' => isOut z ∧ ∃ n, m' = some n ∧ P z (e1.set i (some (reHold sv n)))) (fun x m' => ∃ n, m' = some n ∧ xc x (e1.set i (some (reHold sv n))))
theorem me_call {sp : PSp} {es : List Expr} {r : pA} (hx : ∀ t, PA X es t → PE X ex (tCallS (l2sp C.K C.mg sp) (WE (canX C xc)) t)) (h : PA X es (canK C r)) : PE X ex (canE C (pCall sp xc r)) :=
  (hx _ h).up fun σ H Q ⟨ts, vs, e, P, R, h, k⟩ => ⟨ts, vs, e, _, R, h, fun S ds e1 ws H1 R1 rs h1 => by
    refine ⟨S, none, none, ds, ws, _, _, R1.sub, rfl, rs, trivial, h1, fun z m' v H' S' F _ ⟨ho, hp⟩ => ?_, fun x m' cls d H' S' F _ hat hx => ?_⟩
    · have R2 := R1.afterR F fun p z => by cases z
      exact k z e1 v H' ⟨S', R1.out R2 ho F.top fun a q => (R1.held q).1⟩ hp
    · have R2 := R1.afterR F fun p z => by cases z
      exact ⟨ts, vs, e1, x, S', R2, hat, hx⟩⟩
theorem me_callR {sp : PSp} {x0 : Expr} {es : List Expr} {r : pA} {i : Nat} (n : notStar x0 = true) (hx : ∀ t, PA X (x0 :: es) t → PE X ex (tCallS (l2sp C.K C.mg sp) (WE (canX C xc)) t)) (hv : PE X x0 (tVar i)) (h : PA X es (canK C r)) : PE X ex (canE C (pCallR sp xc i r)) :=
  (hx _ (pa_cons hv h (star_cons n))).up fun σ H Q ⟨ts, vs, e, P, ⟨S0, R⟩, ⟨⟨sv0, m0, hs0, _⟩, h⟩, k⟩ => by
    obtain ⟨o, ho, _⟩ := R.slot i _ hs0
    refine ⟨o, ho, ts, vs, e, _, ⟨S0, R⟩, h, fun S ds e1 ws H1 R1 rs ⟨sv, m, q1, q2, h1⟩ => ?_⟩
    obtain ⟨v, hv1, hsv⟩ := R1.slot i sv q1
    rw [ho] at hv1; cases hv1
    obtain ⟨p, rfl, hs, hm, hw, ho1⟩ : ∃ p, o = .ref p ∧ S p = none ∧ MRep C S H1 p m ∧ (C.H0 p = none ∨ C.R = some p) ∧ own1 p sv o = 1 := by
      cases sv with
      | val d => exact q2.elim
      | exn x => exact q2.elim
      | own m₀ => have e : m₀ = m := q2; subst e; obtain ⟨a, rfl, h0, hs, hr⟩ := hsv; exact ⟨a, rfl, hs, hr, .inl h0, by simp [own1]⟩
      | bor m₀ => have e : m₀ = m := q2; subst e; obtain ⟨a, rfl, h0, hs, hr⟩ := hsv; exact ⟨a, rfl, hs, hr, .inr h0, by simp [own1]⟩
    have rm := fun a => ownS_rm a none e1 σ i sv (.ref p) q1 ho
    have rm : ∀ a, ownS a (e1.set i none) σ + own1 a sv (.ref p) = ownS a e1 σ + 0 := rm
    have hz : ownT p ts vs + ownS p (e1.set i none) σ = 0 := by have := R1.dist p; have := rm p; omega
    have back : ∀ {S' H' : Hp} {us : List Sv} {ws' : List V} {nm : M}, RepAt (cfg0 C.K C.mg S H1 (some p)) S' us ws' [] [] H' → refRep C.K C.mg S' H' (some p) (some nm) → RepAt C S' ts vs (e1.set i (some (reHold sv nm))) σ H' := fun {S' H' us ws' nm} F hr => by
      have R2 : RepAt C S' ts vs (e1.set i none) σ H' := R1.drop.afterR F fun p' z => by cases z; exact ⟨hz, hw⟩
      obtain ⟨hr1, hr2⟩ := hr
      refine R2.put q1 ho ?_ fun a => ?_
      · cases sv with
        | val d => exact q2.elim
        | exn x => exact q2.elim
        | own m₀ => obtain ⟨a, e, h0, _⟩ := hsv; cases e; exact ⟨p, rfl, h0, hr1, hr2.cfg rfl rfl⟩
        | bor m₀ => obtain ⟨a, e, h0, _⟩ := hsv; cases e; exact ⟨p, rfl, h0, hr1, hr2.cfg rfl rfl⟩
      · have e1' : own1 a (reHold sv nm) (.ref p) = own1 a sv (.ref p) := by cases sv <;> rfl
        have := rm a
        have := R1.dist a
        omega
    refine ⟨S, some p, some m, ds, ws, _, _, R1.sub, rfl, rs, ⟨hs, hm.cfg rfl rfl⟩, h1, fun z m' v H' S' F hr ⟨hout, nm, e2, hp⟩ => ?_, fun x m' cls d H' S' F hr hat ⟨nm, e2, hx⟩ => ?_⟩
    · subst e2
      have R3 := back F hr
      refine k z _ v H' ⟨S', R1.out R3 hout F.top fun a q => ?_⟩ hp
      have e1' : own1 a (reHold sv nm) (.ref p) = own1 a sv (.ref p) := by cases sv <;> rfl
      have h2 := ownS_rm a (some (reHold sv nm)) e1 σ i sv (.ref p) q1 ho
      have h2 : ownS a (e1.set i (some (reHold sv nm))) σ + own1 a sv (.ref p) = ownS a e1 σ + own1 a (reHold sv nm) (.ref p) := h2
      exact (R1.held (a := a) (by omega)).1
    · subst e2
      exact ⟨ts, vs, _, x, S', back F hr, hat, hx⟩

/-! ### a def by its body's reading -/
def finR (ref : Bool) (e : PEnv) (P : Option M → Prop) : Prop := match ref with
  | false => P none
  | true => match (e[0]? : Option (Option Sv)) with
    | some (some (Sv.bor m)) => P (some m)
    | _ => False
def entry (m : Option M) (ds : List D) (n : Nat) : PEnv := (match m with
  | some m => [some (.bor m)]
  | none => []) ++ ds.map (fun d => some (.val d)) ++ List.replicate n none
/-- nloc: the names behind the parameters; np: the parameters -/
def semFn (nloc np : Nat) (ref : Bool) (p : XC → pS) : PSp := fun m ds P PX => (m.isSome = ref ∧ (if ref = true then 1 else 0) + ds.length = np) ∧
  p (fun x e => finR ref e (PX x)) { nx := fun e => finR ref e (P (.val .non)), rt := fun sv e => isOut sv ∧ finR ref e (P sv), bk := fun _ => False, ct := fun _ => False } (entry m ds nloc)
theorem entry_get {m : Option M} {ds : List D} {n i : Nat} {sv : Sv} (h : (entry m ds n)[i]? = some (some sv)) : (∃ k, m = some k ∧ i = 0 ∧ sv = .bor k) ∨ ∃ d j, ds[j]? = some d ∧ sv = .val d ∧ i = j + (if m.isSome = true then 1 else 0) := by
  have tail : ∀ {i : Nat}, ((ds.map (fun d => some (Sv.val d)) ++ List.replicate n (none : Option Sv))[i]? = some (some sv)) → ∃ d, ds[i]? = some d ∧ sv = .val d := fun {i} h => by
    by_cases hi : i < ds.length
    · rw [List.getElem?_append_left (by simpa using hi), List.getElem?_map] at h
      have : ds[i]? = some ds[i] := by simp [hi]
      rw [this] at h
      simp at h
      exact ⟨ds[i], this, h.symm⟩
    · rw [List.getElem?_append_right (by simpa using hi), List.getElem?_replicate] at h
      split at h <;> simp at h
  cases m with
  | none =>
    obtain ⟨d, h1, h2⟩ := tail (show _ from h)
    exact .inr ⟨d, i, h1, h2, rfl⟩
  | some k =>
    cases i with
    | zero =>
      have : some (some (Sv.bor k)) = some (some sv) := h
      simp at this
      exact .inl ⟨k, rfl, rfl, this.symm⟩
    | succ i =>
      obtain ⟨d, h1, h2⟩ := tail (i := i) (show _ from h)
      exact .inr ⟨d, i, h1, h2, rfl⟩
theorem ownS_vals (a : Addr) : ∀ (ds : List D) (n : Nat) (σ : L2.St), ownS a (ds.map (fun d => some (Sv.val d)) ++ List.replicate n none) σ = 0
  | [], n, σ => by
    rw [List.map_nil, List.nil_append]
    induction n generalizing σ with
    | zero => cases σ <;> simp [ownS]
    | succ n ih =>
      cases σ with
      | nil => simp [List.replicate_succ, ownS]
      | cons y σ =>
        rw [List.replicate_succ]
        show ownO a none y + ownS a (List.replicate n none) σ = 0
        rw [ih σ]
        simp [ownO]
  | d :: ds, n, σ => by
    cases σ with
    | nil => simp [ownS]
    | cons y σ =>
      show ownO a (some (.val d)) y + ownS a (ds.map (fun d => some (Sv.val d)) ++ List.replicate n none) σ = 0
      rw [ownS_vals a ds n σ]
      cases y with
      | none => rfl
      | some v => show own1 a (.val d) v + 0 = 0; rw [own1_val]
theorem entry_len (m : Option M) (ds : List D) (n : Nat) : (entry m ds n).length = (if m.isSome = true then 1 else 0) + ds.length + n := by
  cases m with
  | none => simp [entry]
  | some k => simp [entry]; omega
/-- the slots of a def's entry -/
theorem entry_rep {K : PySem.W.Frag} {mg : Str → Option Value} {S H : Hp} {r : Option Addr} {m : Option M} {ds : List D} {ws : List V} {n : Nat} {N : List Str} (l : Le S H) (rs : RpL K mg S ds ws) (hr : refRep K mg S H r m)
    (hN : (if m.isSome = true then 1 else 0) + ds.length + n = N.length) : RepAt (cfg0 K mg S H r) S [] [] (entry m ds n) (start N (refAdd r ws)) H := by
  have hrm : r.isSome = m.isSome := by
    cases r <;> cases m <;> first | rfl | exact hr.elim
  have lw : (refAdd r ws).length = (if m.isSome = true then 1 else 0) + ds.length := by
    rw [rs.length, ← hrm]
    cases r with
    | none => simp [refAdd]
    | some p => simp [refAdd]; omega
  have get : ∀ (i : Nat) v, (refAdd r ws)[i]? = some v → (start N (refAdd r ws))[i]? = some (some v) := fun i v h => by
    have hi := (List.getElem?_eq_some_iff.mp h).1
    unfold L2.start
    rw [List.getElem?_append_left (by simpa using hi), List.getElem?_map, h]
    rfl
  refine { sub := l, ext := Le.refl S, new := fun a o q => .inl ⟨o, q⟩, fr := fun a o q _ => q, rf := fun a q => ?_, tmp := .nil, len := ?_, slot := fun i sv h => ?_, dist := fun a => ?_ }
  · have q : r = some a := q
    subst q
    cases m with
    | none => exact hr.elim
    | some k => exact hr.2.there
  · rw [entry_len]
    unfold L2.start
    rw [List.length_append, List.length_map, List.length_replicate, lw]
    omega
  · rcases entry_get h with ⟨k, rfl, rfl, rfl⟩ | ⟨d, j, h1, rfl, rfl⟩
    · cases r with
      | none => exact hr.elim
      | some p => exact ⟨.ref p, get 0 _ rfl, p, rfl, rfl, hr.1, hr.2.cfg rfl rfl⟩
    · obtain ⟨v, h2, h3⟩ := rs.get h1
      refine ⟨v, get _ v ?_, h3⟩
      rw [← hrm]
      cases r with
      | none => exact h2
      | some p => exact h2
  · show ownT a [] [] + ownS a (entry m ds n) (start N (refAdd r ws)) ≤ 1
    cases m with
    | none =>
      have := ownS_vals a ds n (start N (refAdd r ws))
      show 0 + ownS a (ds.map (fun d => some (Sv.val d)) ++ List.replicate n none) _ ≤ 1
      omega
    | some k =>
      cases hs : start N (refAdd r ws) with
      | nil => show 0 + ownS a (some (.bor k) :: _) [] ≤ 1; simp [ownS]
      | cons y σ =>
        have := ownS_vals a ds n σ
        show 0 + (ownO a (some (.bor k)) y + ownS a (ds.map (fun d => some (Sv.val d)) ++ List.replicate n none) σ) ≤ 1
        have l1 : ownO a (some (.bor k)) y ≤ 1 := by
          cases y with
          | none => simp [ownO]
          | some v => exact own1_le a _ v
        omega
/-- the end: the slots go -/
theorem RepAt.bare {S : Hp} {ts : List Sv} {vs : List V} {e : PEnv} {σ : L2.St} {H : Hp} (R : RepAt C S ts vs e σ H) : RepAt C S ts vs [] [] H :=
  { R with len := rfl, slot := fun i sv h => by simp at h, dist := fun a => by have := R.dist a; show ownT a ts vs + 0 ≤ 1; omega }
theorem RepAt.noT {S : Hp} {ts : List Sv} {vs : List V} {e : PEnv} {σ : L2.St} {H : Hp} (R : RepAt C S ts vs e σ H) : RepAt C S [] [] e σ H :=
  R.tmps .nil fun a => by show 0 ≤ _; exact Nat.zero_le _
theorem RepAt.noT1 {S : Hp} {ts : List Sv} {vs : List V} {e : PEnv} {σ : L2.St} {H : Hp} {t : Sv} {v : V} (R : RepAt C S (t :: ts) (v :: vs) e σ H) : RepAt C S [t] [v] e σ H :=
  R.tmps (.cons R.top .nil) fun a => by show own1 a t v + 0 ≤ own1 a t v + ownT a ts vs; omega
theorem RepAt.ref {K : PySem.W.Frag} {mg : Str → Option Value} {S S' H H' : Hp} {ts : List Sv} {vs : List V} {e : PEnv} {σ : L2.St} {r : Option Addr} {P : Option M → Prop} (R : RepAt (cfg0 K mg S H r) S' ts vs e σ H') (hf : finR r.isSome e P) : ∃ m', refRep K mg S' H' r m' ∧ P m' := by
  cases r with
  | none => exact ⟨none, trivial, hf⟩
  | some p =>
    unfold finR at hf
    simp only [Option.isSome_some] at hf
    split at hf
    · rename_i m h
      obtain ⟨v, _, a, rfl, ha, h1, h2⟩ := R.slot 0 _ h
      have ha : some p = some a := ha
      cases ha
      exact ⟨some m, ⟨h1, h2.cfg rfl rfl⟩, hf⟩
    · exact hf.elim
theorem fn_def {P : Program} {w : World} {K : PySem.W.Frag} {mg : Str → Option Value} {base : Heap} {x qual : Str} {params : Arguments} {body : List Stmt} {scope : Scope} {f : Addr} {fd : FuncData} {kws : List (Str × V)} {N ps : List Str} {k nloc : Nat} {ref : Bool} {p : XC → pS}
    (F : FunD K x qual params body scope [] kws f fd) (S : FnScope N ps scope) (hn : ps.length + nloc = N.length)
    (hb : ∀ (cdv : Value) (A : Around) (outer : List Env) (s : Shared) (H : Hp) (E : XK) (C : Cfg) (xc : XC), A.guards = some [] → C.K = K → C.mg = mg → C.ex = none → Room k (A.deeper (envOfC qual scope s.heap.objs.size f cdv)) →
      (∀ cls d σ H', canX C xc cls d σ H' → E cls d H') → PSs (cxOf (L2.CX P w) P w K mg base N qual scope f cdv A outer s H E) body (canS C (p xc))) :
    FnG P w K mg base (L2.CX P w) (k + 1) f fd ps (l2sp K mg (semFn nloc ps.length ref p)) := by
  have len : ∀ vs H Q E, l2sp K mg (semFn nloc ps.length ref p) vs H Q E → vs.length = ps.length := fun vs H Q E ⟨S, r, m, ds, ws, _, _, _, e1, rs, hr, ⟨⟨h1, h2⟩, _⟩, _⟩ => by
    subst e1
    rw [← h2, rs.length]
    cases r with
    | none =>
      cases m with
      | none => subst h1; simp [refAdd]
      | some _ => exact hr.elim
    | some p =>
      cases m with
      | none => exact hr.elim
      | some _ => subst h1; simp [refAdd]; omega
  refine FunD.okG F S len fun cdv A outer s H vs Q E hgd hr h => ?_
  obtain ⟨S0, r, m, ds, ws, PP, PX, l, e1, rs, hrr, ⟨⟨h1, h2⟩, hp⟩, kq, kx⟩ := h
  subst e1
  have hri : r.isSome = ref := by
    rw [← h1]
    cases r <;> cases m <;> first | rfl | exact hrr.elim
  refine ⟨_, hb cdv A outer s H E (cfg0 K mg S0 H r) (fun x e => finR ref e (PX x)) hgd rfl rfl rfl hr (fun cls d σ H' hx => ?_), ?_⟩
  · obtain ⟨ts, vs, e, x, S', R, hat, hf⟩ := hx
    rw [← hri] at hf
    obtain ⟨m', hm, hP⟩ := R.ref hf
    exact kx x m' cls d H' S' R.noT.bare hm hat hP
  · refine ⟨[], [], entry m ds nloc, _, ⟨S0, entry_rep l rs hrr (by rw [h1, h2, hn])⟩, hp, ?_, ?_, ?_, ?_⟩
    · intro e' σ' H' ⟨S', R⟩ hf
      have hf : finR ref e' (PP (.val .non)) := hf
      rw [← hri] at hf
      obtain ⟨m', hm, hP⟩ := R.ref hf
      exact kq _ m' .non H' S' (R.pushV .non).noT1.bare hm hP
    · intro sv e' v σ' H' ⟨S', R⟩ ⟨_, hf⟩
      rw [← hri] at hf
      obtain ⟨m', hm, hP⟩ := R.ref hf
      exact kq sv m' v H' S' R.noT1.bare hm hP
    · intro e' σ' H' _ hf; exact hf.elim
    · intro e' σ' H' _ hf; exact hf.elim
end
end PL
set_option Elab.async false
set_option linter.all false
set_option maxRecDepth 100000
set_option maxHeartbeats 4000000
/-! PL8: own exceptions under ValueError whose __init__ says super().__init__(text) and sets fields. -/
namespace PLX
open PySem PySem.Spec PySem.W PySem.Calls PyProof.Rows PySem.HandSPX

/-- the first row of __init__ -/
abbrev supRow (text : Str) (k : Nat) (p0 p1 p2 p3 p4 p5 : Pos) : Stmt := .Expr (.Call (.Attribute (.Call (.Name "super" p0) [] [] p1) "__init__" p2) [.Constant (.str text) k p5] [] p3) p4
/-- a field's row -/
abbrev fldRow (f : Str) (q1 q2 q3 q4 : Pos) : Stmt := .Assign [.Attribute (.Name "self" q1) f q2] (.Name f q3) q4

/-- what is told of the class at C with its __init__ at fI -/
structure OwnC (P : Program) (K : Frag) (C fI : Addr) (qual : Str) (params : Arguments) (body : List Stmt) (scope : Scope) (fs : List Str) : Prop where
  oex : L2.OexC K C
  noN : ∀ f ∈ fs, findIn K (.ref C) f = some none
  iC : findIn K (.ref C) "__init__" = some (some (.ref fI))
  tI : typeIn K (.ref fI) = some (.type "function")
  fn : ∃ (oc kV doc pm ct : Value) (od an : Option Addr) (osl : Array (Option Value)) (cc cda : Addr), K.lookup fI = some ⟨oc, od, .func (fnX "__init__" qual params body scope [("__class__", cc)] .none kV doc pm an (.ref cda) ct), osl⟩ ∧ codeIn K (.ref cda) qual = true ∧
    (∃ (cl : Value) (cd : Option Addr) (vs : Array Value) (sl : Array (Option Value)) (file : Str) (tf : Tok), K.lookup cda = some ⟨cl, cd, .fields vs, sl⟩ ∧ vs[2]? = some (.str file tf) ∧ ((P.main.file : Str) == file) = true) ∧
    ∃ (cl : Value) (cd : Option Addr) (sl : Array (Option Value)), K.lookup cc = some ⟨cl, cd, .cell (some (.ref C)), sl⟩
  up : ks_superIn K C C "__init__" = some (some (.builtin "ValueError.__init__"))
  sub : mroIn K C (.ref C) = some true
  isV : subIn K (.ref C) (.type "ValueError") = some true
  any : nsIn K cStatics "thirdparty.any" = some none
/-- .. and of its text -/
structure OwnS (P : Program) (params : Arguments) (scope : Scope) (fs : List Str) : Prop where
  hd : ∃ ar, (params.posonlyargs ++ params.args).head? = some ar ∧ ar.arg = "self"
  sup : scope.names.lookup ("super" : Str) = some .globalImplicit
  cls : scope.names.lookup ("__class__" : Str) = some .free
  slf : scope.names.lookup ("self" : Str) = some .local
  loc : ∀ f ∈ fs, scope.names.lookup f = some .local
  top : (P.main.scope.names.lookup ("super" : Str)).isSome = false
  cell : ∀ x ∈ scope.names, x.2 ≠ .cell
  co : scope.isCoroutine = false
  gen : scope.isGenerator = false
  kind : scope.kind = .function
  nd : (("self" : Str) :: fs).Nodup
  bind : ∀ (qual : Str) (body : List Stmt) (cc : Addr) (kV doc pm ct cdv : Value) (an : Option Addr) (s : Shared) (us : List Value), us.length = fs.length + 1 → BindsTo s (fnX "__init__" qual params body scope [("__class__", cc)] .none kV doc pm an cdv ct) ⟨us, []⟩ ((("self" : Str) :: fs).zip us)

section
variable {prog : Program} {w : World} {A : Around} {E : Value → Shared → Prop} {R : Result → Shared → Prop} {K : Frag} {C fI : Addr} {qual : Str} {params : Arguments} {body : List Stmt} {scope : Scope} {fs : List Str}

theorem meth_eq {o : Expr} {name : Str} {apos pos : Pos} {args : List Expr} {env : Env} (hp : (apos.endLine == pos.line) = true) {pl : Sem Bool} (hpl : pl = (do return (← importBound o env).getD true)) (hm : methodCallForm (args.length + 0) (backTo pos (starEach args env)) (backToKw pos (keywordEach [] env)) = true) : eval (.Call (.Attribute o name apos) args [] pos) env = (do
      let ov ← attributeBase o name env (eval o env)
      standAt apos.atName
      let (f, first) ← holding [ov] (getMethod ov name pl)
      callWith pos f first (backTo pos (starEach args env)) []) := by
  have e : ∀ few, methodCallPos few o env apos pos = pure pos := fun few => by
    unfold methodCallPos
    rw [hp, Bool.or_true]
    rfl
  subst hpl
  show (do
    let ov ← attributeBase o name env (eval o env)
    standAt apos.atName
    methodCall o name apos pos env ov (args.length + 0) (backTo pos (starEach args env)) (backToKw pos (keywordEach [] env))) = _
  unfold methodCall
  rw [e, hm]
  rfl
theorem call_bound {hp : Heap} {g : Array GenState} {d : Drawn} {t : Nat} {os : OsState} {u x t0 : Addr} {rest : List Value} {Q : Value → Shared → Prop} (T : L2.OexC K C) (X : K.In hp) (hu : hp.get? u = some (kxs_mw "ValueError.__init__" x)) (hx : hp.get? x = some (excO C t0)) (hz : rest.length ≤ sizeLine)
    (h : ∀ h' t1, (∀ b o, b ≠ x → hp.get? b = some o → h'.get? b = some o) → h'.get? x = some (excO C t1) → Q .none ⟨h', g, d, t, os⟩) : wpAny (model prog w) A (call (.ref u) rest) Q E ⟨hp, g, d, t, os⟩ := by
  obtain ⟨nm, q, N, bs, bm, sn, sub, ab, col, dd, k0, k1, k2, k3, k5, hC, hbm⟩ := T.cls
  refine wpAny_call (codeAny_of_tree ?_)
  show wpAny _ A.in1 (callAny (.ref u) ⟨rest, []⟩) _ _ _
  simp only [callAny]
  refine wpAny_bind (wpAny_load hu ?_)
  simp only [kxs_mw, show (Value.type "method-wrapper" == Value.type "method" || Value.type "method-wrapper" == Value.type "builtin_function_or_method" || Value.type "method-wrapper" == Value.type "method-wrapper") = true by decide, if_true]
  refine KFB.if_so (by decide) ?_
  refine wpAny_bind (check_bound_init F.excBase_ValueError.toExcCallFacts (X _ _ hC) hx rfl ?_)
  refine wpAny_bind (wpAny_pure (wpAny_pure ?_))
  refine ⟨plainId_quiet F.excBase_ValueError.init.plain _, codeAny_builtin F.excBase_ValueError.initEntry ?_⟩
  exact exc_init_tree (cls := .ref C) (t0 := t0) (dv := none) (c2 := .none) (c3 := .none) (b4 := .bool false) hx hz fun h' k e _ => h h' _ k e
/-- super().__init__(text) -/
theorem sup_row {text : Str} {kk : Nat} {p0 p1 p2 p3 p4 p5 : Pos} {rest : List Stmt} {L cc cda : Addr} {m mg mb : Str → Option Value} {x t0 : Addr} {Q : Flow → Shared → Prop} {hp : Heap} {g : Array GenState} {d : Drawn} {t : Nat} {os : OsState} {oc dV kV doc pm ct : Value} {od an : Option Addr} {osl : Array (Option Value)}
    (hpos : (p2.endLine == p3.line) = true) (T : OwnC prog K C fI qual params body scope fs) (U : OwnS prog params scope fs) (ho : K.lookup fI = some ⟨oc, od, .func (fnX "__init__" qual params body scope [("__class__", cc)] dV kV doc pm an (.ref cda) ct), osl⟩)
    (hcode : ∃ (cl : Value) (cd : Option Addr) (vs : Array Value) (sl : Array (Option Value)) (file : Str) (tf : Tok), K.lookup cda = some ⟨cl, cd, .fields vs, sl⟩ ∧ vs[2]? = some (.str file tf) ∧ ((prog.main.file : Str) == file) = true)
    (hcell : ∃ (cl : Value) (cd : Option Addr) (sl : Array (Option Value)), K.lookup cc = some ⟨cl, cd, .cell (some (.ref C)), sl⟩)
    (X : K.In hp) (hn : hp.Ns L m) (hv : m "self" = some (.ref x)) (hx : hp.get? x = some (excO C t0)) (hg : hp.Ns mainGlobals mg) (hmg : mg "super" = none) (hb : hp.Ns builtinsNs mb) (hmb : mb "super" = some (.type "super"))
    (h : ∀ h' t1 tk, (∀ b o, b ≠ x → hp.get? b = some o → h'.get? b = some o) → h'.get? x = some (excO C t1) → wpAny (model prog w) A (execs rest (ksEnv qual scope L fI (.ref cda) cc)) Q E ⟨h', g, d, tk, os⟩) :
    _root_.PySem.wpAt (model prog w) A (.func body (ksEnv qual scope L fI (.ref cda) cc)) (execs (supRow text kk p0 p1 p2 p3 p4 p5 :: rest) (ksEnv qual scope L fI (.ref cda) cc)) Q E ⟨hp, g, d, t, os⟩ := by
  obtain ⟨nm, q, N, bs, bm, sn, sub, ab, col, dd, k0, k1, k2, k3, k5, hC, hbm⟩ := T.oex.cls
  obtain ⟨ccl, cdd, vs, ccs, file, tf, hcode, hvs, hfile⟩ := hcode
  obtain ⟨cl, cld, csl, hcell⟩ := hcell
  obtain ⟨ar, har, ear⟩ := U.hd
  have hcl : clsIn K C = some { name := nm, bases := bs, mro := .ref C :: bm, ns := N, qualname := q, hasDict := true, slotNames := sn, subclasses := sub, abstract := ab, collection := col, hasDel := false } := by unfold clsIn; rw [hC] <;> rfl
  have hxC : x ≠ C := by
    rintro rfl
    have e := X _ _ hC
    rw [hx] at e
    cases e
  have hup := T.up
  unfold ks_superIn at hup
  rw [hcl, Option.bind_some] at hup
  refine ks_wpAt_execs_cons ?_
  refine ks_wpAt_Expr_any ?_ (hi := by unfold interactive; rw [show (ksEnv qual scope L fI (.ref cda) cc).scope.kind = .function from U.kind]; rfl)
  refine ks_wpAt_MethodCall ?_ (he := meth_eq hpos rfl (by rfl))
  refine ks_wpAt_super_base (env := ksEnv qual scope L fI (.ref cda) cc) U.sup U.cls (by decide +kernel) rfl (X _ _ ho) rfl har rfl (X _ _ hcode) rfl hvs hfile U.top ?_
  refine ks_loadName_global U.kind U.sup (loadGlobal_builtin (env := ksEnv qual scope L fI (.ref cda) cc) hg hmg hb hmb ⟨rfl, ?_⟩)
  refine wpAny_loadName_free U.kind U.cls rfl ⟨_, X _ _ hcell, rfl⟩ ?_
  rw [ear]
  refine wpAny_loadName_local U.kind U.slf hn hv ?_
  refine ks_wpAny_isType_cls (X _ _ hC) rfl ⟨rfl, ?_⟩
  refine ks_wpAny_call_super (X _ _ hC) rfl hx rfl (fun c e => nomatch e) (looks_mroIn X T.sub) (fun h1 e1 kp1 => ?_)
  have X1 : K.In h1 := X.keeps kp1
  have hx1 := kp1 _ _ hx
  have I1 : InstAt h1 x (excO C t0) C none := ⟨hx1, rfl, rfl, trivial⟩
  have hI : Looks (model prog w) h1 (isInstance (.ref x) (.type "ValueError")) true := I1.type.andThen (looks_subIn X1 T.isV)
  refine kxs_getMethod kxs_ValueError e1 (looks_opaque X1 T.any) (l₀ := .ref C :: bm) (fun A Q E s k q => wpAny_bind ((looks_clsIn X1 hcl) A _ E s k (wpAny_pure q))) rfl X1 hup hI hxC (by decide +kernel) ?_
  have hne : h1.objs.size ≠ x := Nat.ne_of_gt (Heap.lt_size hx1)
  refine kxs_callWith (i := "ValueError.__init__") (x := x) rfl ?_
  show wpAny _ _ (evalArgs _ true [(false, eval (.Constant (.str text) kk p5) (ksEnv qual scope L fI (.ref cda) cc))] []) _ _ _
  refine evalArgs_plain ?_
  refine Calls.spliced_cons (wpAny_Constant_str (Calls.spliced_nil ?_))
  have hu : (h1.push (kxs_mw "ValueError.__init__" x)).get? h1.objs.size = some (kxs_mw "ValueError.__init__" x) := Heap.get?_push_at rfl rfl
  refine ⟨hu, ?_⟩
  have X2 : K.In (h1.push (kxs_mw "ValueError.__init__" x)) := X1.keeps fun b o e => Heap.get?_push_of_some _ e
  refine call_bound T.oex X2 hu (Heap.get?_push_of_some _ hx1) (by show 1 ≤ sizeLine; decide) fun h' t1 k' hx' => ?_
  exact _root_.PySem.wpAt_of_wpAny (h h' t1 _ (fun b o hb e => k' b o hb (Heap.get?_push_of_some _ (kp1 b o e))) hx')

/-- the fields so far, the latest first -/
def fm : List (Str × Value) → Str → Option Value
  | [], _ => none
  | (f, v) :: r, y => if y = f then some v else fm r y
theorem fm_in : ∀ (l : List (Str × Value)), Within (fm l) (l.map (·.1))
  | [], y, h => absurd rfl h
  | (f, v) :: r, y, h => by
    by_cases e : y = f
    · subst e; exact List.mem_cons_self
    · refine List.mem_cons_of_mem _ (fm_in r y fun z => h ?_)
      show (if y = f then some v else fm r y) = none
      rw [if_neg e]; exact z
inductive FldRows : List Str → List Stmt → Prop
  | nil : FldRows [] []
  | cons {f : Str} {fs : List Str} {q1 q2 q3 q4 : Pos} {sts : List Stmt} (r : FldRows fs sts) (hd : (f == ("__debug__" : Str)) = false) : FldRows (f :: fs) (fldRow f q1 q2 q3 q4 :: sts)
/-- the fields of a list of names, as the parameters have them -/
def fvs (done : List (Str × Value)) : List Str → List Value → List (Str × Value)
  | f :: fs, v :: vs => fvs ((f, v) :: done) fs vs
  | _, _ => done
theorem ldX {M : Model} {s : Shared} {L f0 : Addr} {cd : Value} {cc : Addr} {m : Str → Option Value} {x : Str} {pos : Pos} {v : Value} {Q : Value → Shared → Prop} (hk : scope.kind = .function) (hl : scope.names.lookup x = some .local) (hd : (x == ("__debug__" : Str)) = false) (hn : s.heap.Ns L m) (hv : m x = some v) (h : Q v s) :
    wpAny M A (eval (.Name x pos) (ksEnv qual scope L f0 cd cc)) Q E s := wpAny_Name (wpAny_loadName_local (env := ksEnv qual scope L f0 cd cc) hk hl hn hv h) hd
theorem rows_old (T : L2.OexC K C) (hk : scope.kind = .function) (hslf : scope.names.lookup ("self" : Str) = some .local) {L f0 cc dx x : Addr} {cd : Value} {m : Str → Option Value} {fv : Array Value} {Q : Flow → Shared → Prop} {g : Array GenState} {d : Drawn} {os : OsState} (hxL : m "self" = some (.ref x)) (hdL : L ≠ dx) (hdx : x ≠ dx) :
    ∀ {fs : List Str} {sts : List Stmt}, FldRows fs sts → ∀ (vs : List Value) (done : List (Str × Value)) (hp : Heap) (t : Nat), (∀ f ∈ fs, findIn K (.ref C) f = some none ∧ scope.names.lookup f = some .local) → vs.length = fs.length → (∀ (i : Nat) f v, fs[i]? = some f → vs[i]? = some v → m f = some v) →
      done.length + fs.length ≤ 900 → K.In hp → K.lookup dx = none → hp.Ns L m → hp.get? x = some { cls := .ref C, dict := some dx, data := .fields fv } → hp.Ns1 dx (fm done) →
      (∀ h' tk, (∀ b o, b ≠ dx → hp.get? b = some o → h'.get? b = some o) → h'.Ns1 dx (fm (fvs done fs vs)) → Q .next ⟨h', g, d, tk, os⟩) → wpAny (model prog w) A (execs sts (ksEnv qual scope L f0 cd cc)) Q E ⟨hp, g, d, t, os⟩ := by
  obtain ⟨nm, q, N, bs, bm, sn, sub, ab, col, dd, k0, k1, k2, k3, k5, hC, hbm⟩ := T.cls
  have hcl : clsIn K C = some { name := nm, bases := bs, mro := .ref C :: bm, ns := N, qualname := q, hasDict := true, slotNames := sn, subclasses := sub, abstract := ab, collection := col, hasDel := false } := by unfold clsIn; rw [hC] <;> rfl
  intro fs sts r
  induction r with
  | nil =>
    intro vs done hp t _ hl _ _ _ _ _ _ hns h
    exact wpAny_execs_nil (h hp t (fun b o _ e => e) (by cases vs <;> exact hns))
  | @cons f fs q1 q2 q3 q4 sts r hdb ih =>
    intro vs done hp t hf hl hm hz X hKd hn hx hns h
    cases vs with
    | nil => simp at hl
    | cons v vs =>
      have hmv : m f = some v := hm 0 f v rfl rfl
      obtain ⟨oD, _, _, hoD, _, _⟩ := hns.count (fm_in done)
      refine wpAny_execs_cons (plainObj_wpAny_Assign_Attribute ?_)
      refine ldX hk (hf f List.mem_cons_self).2 hdb hn hmv (ldX hk hslf (by decide) hn hxL ?_)
      refine set_plain X (ox := { cls := .ref C, dict := some dx, data := .fields fv }) (od := some oD) ⟨hx, rfl, rfl, hoD⟩ T.sa ?_
      refine PySem.OEX.osa_old X hx hns (fm_in done) (by rw [List.length_map]; simp only [List.length_cons] at hz; omega) hcl (show refsVE (.ref C :: bm) = true from hbm) rfl (hf f List.mem_cons_self).1 fun h' tk' k' hn' => ?_
      refine ih vs ((f, v) :: done) h' tk' (fun y hy => hf y (List.mem_cons_of_mem _ hy)) (by simpa using hl) (fun i y u h1 h2 => hm (i + 1) y u (by simpa using h1) (by simpa using h2)) (by simp only [List.length_cons] at hz ⊢; omega) ?_ hKd ?_ ?_ hn' ?_
      · exact fun a o e => k' a o (fun z => by rw [z, hKd] at e; cases e) (X a o e)
      · exact hn.at fun o q => k' L o hdL q
      · exact k' x _ hdx hx
      · exact fun h'' tk'' k'' hn'' => h h'' tk'' (fun b o hb e => k'' b o hb (k' b o hb e)) hn''
/-- behind the fields' rows -/
structure MadeX (h h' : Heap) (x C t1 : Addr) (dO : Option Addr) (fvals : List (Str × Value)) : Prop where
  keep : ∀ b o, b ≠ x → h.get? b = some o → h'.get? b = some o
  obj : h'.get? x = some { cls := .ref C, dict := dO, data := .fields #[.ref t1, .none, .none, .none, .bool false, .none] }
  dict : match dO with
    | none => fvals = []
    | some dx => h.objs.size ≤ dx ∧ dx ≠ x ∧ h'.Ns1 dx (fm fvals)
theorem rows_new (T : L2.OexC K C) (hk : scope.kind = .function) (hslf : scope.names.lookup ("self" : Str) = some .local) {L f0 cc x t1 : Addr} {cd : Value} {m : Str → Option Value} {Q : Flow → Shared → Prop} {g : Array GenState} {d : Drawn} {os : OsState} (hxL : m "self" = some (.ref x))
    {fs : List Str} {sts : List Stmt} (r : FldRows fs sts) {vs : List Value} {hp : Heap} {t : Nat} (hf : ∀ f ∈ fs, findIn K (.ref C) f = some none ∧ scope.names.lookup f = some .local) (hl : vs.length = fs.length) (hm : ∀ (i : Nat) f v, fs[i]? = some f → vs[i]? = some v → m f = some v)
    (hz : fs.length ≤ 900) (X : K.In hp) (hKx : K.lookup x = none) (hLx : L ≠ x) (hn : hp.Ns L m) (hx : hp.get? x = some (excO C t1))
    (h : ∀ h' tk dO, MadeX hp h' x C t1 dO (fvs [] fs vs) → Q .next ⟨h', g, d, tk, os⟩) : wpAny (model prog w) A (execs sts (ksEnv qual scope L f0 cd cc)) Q E ⟨hp, g, d, t, os⟩ := by
  obtain ⟨nm, q, N, bs, bm, sn, sub, ab, col, dd, k0, k1, k2, k3, k5, hC, hbm⟩ := T.cls
  have hcl : clsIn K C = some { name := nm, bases := bs, mro := .ref C :: bm, ns := N, qualname := q, hasDict := true, slotNames := sn, subclasses := sub, abstract := ab, collection := col, hasDel := false } := by unfold clsIn; rw [hC] <;> rfl
  cases r with
  | nil => exact wpAny_execs_nil (h hp t none ⟨fun b o _ e => e, hx, by cases vs <;> rfl⟩)
  | @cons f fs q1 q2 q3 q4 sts r hdb =>
    cases vs with
    | nil => simp at hl
    | cons v vs =>
      have hmv : m f = some v := hm 0 f v rfl rfl
      refine wpAny_execs_cons (plainObj_wpAny_Assign_Attribute ?_)
      refine ldX hk (hf f List.mem_cons_self).2 hdb hn hmv (ldX hk hslf (by decide) hn hxL ?_)
      refine set_plain X (ox := excO C t1) (od := none) ⟨hx, rfl, rfl, trivial⟩ T.sa ?_
      refine exc_osa X hx hcl (show refsVE (.ref C :: bm) = true from hbm) rfl (hf f List.mem_cons_self).1 (fun h₃ tk₃ dx k₃ dn dne hx₃ hn₃ => ?_)
      have nd : ∀ {b : Addr} {o : Obj}, hp.get? b = some o → b ≠ dx := fun {b o} e => Nat.ne_of_lt (Nat.lt_of_lt_of_le (Heap.lt_size e) dn)
      obtain ⟨oL, _, _, hoL, _⟩ := id hn
      have hKd : K.lookup dx = none := by
        cases e : K.lookup dx with
        | none => rfl
        | some o => exact absurd rfl (nd (X _ _ e))
      refine rows_old (prog := prog) (w := w) (A := A) (E := E) (qual := qual) T hk hslf (dx := dx) (fv := #[.ref t1, .none, .none, .none, .bool false, .none]) hxL (nd hoL) (Ne.symm dne) r vs [(f, v)] h₃ tk₃ (fun y hy => hf y (List.mem_cons_of_mem _ hy)) (by simpa using hl) (fun i y u h1 h2 => hm (i + 1) y u (by simpa using h1) (by simpa using h2)) (by simp only [List.length_cons, List.length_nil] at hz ⊢; omega) ?_ hKd ?_ hx₃ hn₃ ?_
      · exact fun a o e => k₃ a o (fun z => by rw [z, hKx] at e; cases e) (X a o e)
      · exact hn.at fun o q => k₃ L o hLx q
      · intro h' tk k' hn'
        exact h h' tk (some dx) ⟨fun b o hb e => k' b o (nd e) (k₃ b o hb e), k' x _ (Ne.symm dne) hx₃, dn, dne, hn'⟩

theorem lookup_nd {y : Str} {v : Value} : ∀ {l : List (Str × Value)}, (l.map (·.1)).Nodup → (y, v) ∈ l → l.lookup y = some v
  | [], _, h => by cases h
  | (f, u) :: l, hn, h => by
    rw [List.map_cons, List.nodup_cons] at hn
    rcases List.mem_cons.mp h with e | h
    · cases e
      simp [List.lookup]
    · have ne : y ≠ f := fun z => hn.1 (List.mem_map.mpr ⟨(y, v), h, z⟩)
      have : (y == f) = false := by simpa using ne
      rw [List.lookup_cons, this]
      exact lookup_nd hn.2 h
theorem keys_zip : ∀ {fs : List Str} {vs : List Value}, vs.length = fs.length → (fs.zip vs).map (·.1) = fs
  | [], [], _ => rfl
  | f :: fs, v :: vs, h => by
    rw [List.zip_cons_cons, List.map_cons, keys_zip (by simpa using h)]
  | [], _ :: _, h => by simp at h
  | _ :: _, [], h => by simp at h
theorem own_init {text : Str} {kk : Nat} {p0 p1 p2 p3 p4 p5 : Pos} {rows : List Stmt} {mg mb : Str → Option Value} {x t0 : Addr} {hp : Heap} {g : Array GenState} {d : Drawn} {t : Nat} {os : OsState} {vs : List Value}
    (hpos : (p2.endLine == p3.line) = true) (T : OwnC prog K C fI qual params (supRow text kk p0 p1 p2 p3 p4 p5 :: rows) scope fs) (U : OwnS prog params scope fs) (r : FldRows fs rows) (hz : fs.length ≤ 900)
    (X : K.In hp) (hlim : hp.NoLimit) (hx : hp.get? x = some (excO C t0)) (hKx : K.lookup x = none) (hroom : A.depth < recursionLimit) (hg : hp.Ns mainGlobals mg) (hmg : mg "super" = none) (hb : hp.Ns builtinsNs mb) (hmb : mb "super" = some (.type "super")) (hl : vs.length = fs.length)
    (nG : x ≠ mainGlobals) (nB : x ≠ builtinsNs)
    (hq : ∀ h' tk t1 dO, MadeX hp h' x C t1 dO (fvs [] fs vs) → R (.ok (.ret .none)) ⟨h', g, d, tk, os⟩) : codeAny (model prog w) A (.call (.ref fI) ⟨.ref x :: vs, []⟩) R ⟨hp, g, d, t, os⟩ := by
  obtain ⟨oc, kV, doc, pm, ct, od, an, osl, cc, cda, ho, hcd, hcode, hcell⟩ := T.fn
  have hu : (Value.ref x :: vs).length = (("self" : Str) :: fs).length := by simp [hl]
  have hk := keys_zip hu
  have hnd : ((((("self" : Str) :: fs).zip (Value.ref x :: vs)).reverse).map (·.1)).Nodup := by
    rw [List.map_reverse, hk]
    exact (List.reverse_perm _).nodup_iff.mpr U.nd
  have look : ∀ (i : Nat) f v, (("self" : Str) :: fs)[i]? = some f → (Value.ref x :: vs)[i]? = some v → ((("self" : Str) :: fs).zip (Value.ref x :: vs)).reverse.lookup f = some v := fun i f v h1 h2 =>
    lookup_nd hnd (List.mem_reverse.mpr (List.mem_of_getElem? (i := i) (by rw [List.getElem?_zip_eq_some]; exact ⟨h1, h2⟩)))
  refine ks_codeAny_call_defAt (s := ⟨hp, g, d, t, os⟩) (fd := fnX "__init__" qual params (supRow text kk p0 p1 p2 p3 p4 p5 :: rows) scope [("__class__", cc)] .none kV doc pm an (.ref cda) ct) (body := supRow text kk p0 p1 p2 p3 p4 p5 :: rows) (binds := (("self" : Str) :: fs).zip (Value.ref x :: vs))
    hroom (X _ _ ho) rfl hlim (codeRec_of X hcd) rfl (U.bind qual _ cc kV doc pm ct (.ref cda) an _ (Value.ref x :: vs) (by simp [hl])) U.cell (fun y hy => ?_) (fun h₁ hns k₁ => ?_) U.co U.gen U.kind
  · have hm : y.1 ∈ (("self" : Str) :: fs) := by rw [← hk]; exact List.mem_map.mpr ⟨y, hy, rfl⟩
    rcases List.mem_cons.mp hm with e | hm
    · rw [e]; exact U.slf
    · exact U.loc _ hm
  · have X1 : K.In h₁ := X.keeps k₁
    have hx1 := k₁ _ _ hx
    have hLx : hp.objs.size ≠ x := Nat.ne_of_gt (Heap.lt_size hx)
    refine sup_row (x := x) hpos T U ho hcode hcell X1 hns (look 0 _ _ rfl rfl) hx1 (hg.keeps k₁) hmg (hb.keeps k₁) hmb fun h2 t1 tk k2 hx2 => ?_
    have hns2 : h2.Ns hp.objs.size _ := hns.at fun o q => k2 _ o hLx q
    refine rows_new (L := hp.objs.size) T.oex U.kind U.slf (look 0 _ _ rfl rfl) r (fun f hf => ⟨T.noN f hf, U.loc f hf⟩) hl (fun i f v h1 h2 => look (i + 1) f v (by simpa using h1) (by simpa using h2)) hz (fun a o e => k2 a o (fun z => by rw [z, hKx] at e; cases e) (X1 a o e)) hKx hLx hns2 hx2 fun h' tk' dO M => ?_
    refine hq h' tk' t1 dO ⟨fun b o hb e => M.keep b o hb (k2 b o hb (k₁ b o e)), M.obj, ?_⟩
    have dd := M.dict
    cases dO with
    | none => exact dd
    | some dx =>
      obtain ⟨d1, d2, d3⟩ := dd
      have hL : hp.objs.size < h2.objs.size := by
        obtain ⟨oL, _, _, hoL, _⟩ := hns2
        exact Heap.lt_size hoL
      exact ⟨by omega, d2, d3⟩
/-- a made one -/
structure MadeO (h h' : Heap) (e C : Addr) (dO : Option Addr) (fvals : List (Str × Value)) : Prop where
  keep : ∀ b o, h.get? b = some o → h'.get? b = some o
  new : h.objs.size ≤ e
  obj : ∃ t1 : Addr, h'.get? e = some { cls := .ref C, dict := dO, data := .fields #[.ref t1, .none, .none, .none, .bool false, .none] }
  dict : match dO with
    | none => fvals = []
    | some dx => h.objs.size ≤ dx ∧ dx ≠ e ∧ h'.Ns1 dx (fm fvals)
theorem own_made {text : Str} {kk : Nat} {p0 p1 p2 p3 p4 p5 : Pos} {rows : List Stmt} {mg mb : Str → Option Value} {hp : Heap} {g : Array GenState} {d : Drawn} {t : Nat} {os : OsState} {vs : List Value}
    (hpos : (p2.endLine == p3.line) = true) (T : OwnC prog K C fI qual params (supRow text kk p0 p1 p2 p3 p4 p5 :: rows) scope fs) (U : OwnS prog params scope fs) (r : FldRows fs rows) (hz : fs.length ≤ 900)
    (X : K.In hp) (hlim : hp.NoLimit) (hroom : A.depth + 1 < recursionLimit) (hg : hp.Ns mainGlobals mg) (hmg : mg "super" = none) (hb : hp.Ns builtinsNs mb) (hmb : mb "super" = some (.type "super")) (hl : vs.length = fs.length)
    (hq : ∀ h' tk e dO, MadeO hp h' e C dO (fvs [] fs vs) → R (.ok (.ret (.ref e))) ⟨h', g, d, tk, os⟩) : codeAny (model prog w) A (.call (.ref C) ⟨vs, []⟩) R ⟨hp, g, d, t, os⟩ := by
  obtain ⟨nm, q, N, bs, bm, sn, sub, ab, col, dd, k0, k1, k2, k3, k5, hC, hbm⟩ := T.oex.cls
  have k : ∀ b o, hp.get? b = some o → ((hp.push (kdv_tup vs)).push (excO C hp.objs.size)).get? b = some o := fun b o e => Heap.get?_push_of_some _ (Heap.get?_push_of_some _ e)
  have hget : ((hp.push (kdv_tup vs)).push (excO C hp.objs.size)).get? (hp.objs.size + 1) = some (excO C hp.objs.size) := by heap_get
  have lt1 : ∀ {b : Addr} {o : Obj}, hp.get? b = some o → hp.objs.size + 1 ≠ b := fun {b o} z e => by
    subst e
    exact absurd (Nat.lt_of_succ_lt (Heap.lt_size z)) (Nat.lt_irrefl _)
  have hnx : K.lookup (hp.objs.size + 1) = none := by
    cases e : K.lookup (hp.objs.size + 1) with
    | none => rfl
    | some o => exact absurd rfl (lt1 (X _ _ e))
  obtain ⟨oG, _, _, hoG, _⟩ := id hg
  obtain ⟨oB, _, _, hoB, _⟩ := id hb
  have hvz : vs.length ≤ sizeLine := by rw [hl, sizeLine_eq]; omega
  refine call_own F.excBase_ValueError (fun X => refsVE_contains X bm hbm) (X _ _ hC) (looks_findIn X T.iC) (fun self => bind_fn X self T.tI) hvz ?_
  refine own_init hpos T U r hz (X.keeps k) (hlim.keeps k) hget hnx hroom (hg.keeps k) hmg (hb.keeps k) hmb hl (lt1 hoG) (lt1 hoB) fun h' tk' t1 dO M => ?_
  refine ⟨rfl, hq h' tk' (hp.objs.size + 1) dO ⟨fun b o e => M.keep b o (Ne.symm (lt1 e)) (k b o e), Nat.le_succ _, ⟨t1, M.obj⟩, ?_⟩⟩
  have dd := M.dict
  cases dO with
  | none => exact dd
  | some dx =>
    obtain ⟨d1, d2, d3⟩ := dd
    have : ((hp.push (kdv_tup vs)).push (excO C hp.objs.size)).objs.size = hp.objs.size + 1 + 1 := by rw [Heap.size_push, Heap.size_push]
    exact ⟨by omega, d2, d3⟩
end
end PLX
set_option Elab.async false
set_option linter.all false
set_option maxRecDepth 100000
set_option maxHeartbeats 4000000
/-! PL9: raise and try .. except over plain data. -/
namespace PLX
open PySem PySem.Spec PyProof.Rows L2 PL
open PySem.W (Frag)
def fvv (done : List (Str × V)) : List Str → List V → List (Str × V)
  | f :: fs, v :: vs => fvv ((f, v) :: done) fs vs
  | _, _ => done
def fvd (done : List (Str × D)) : List Str → List D → List (Str × D)
  | f :: fs, v :: vs => fvd ((f, v) :: done) fs vs
  | _, _ => done
theorem fvd_rep {K : Frag} {mg : Str → Option Value} {S : Hp} : ∀ {fs : List Str} {ds : List D} {vs : List V} {dn : List (Str × D)} {dv : List (Str × V)}, RpL K mg S ds vs → RpF K mg S dn dv → RpF K mg S (fvd dn fs ds) (fvv dv fs vs)
  | [], _, _, _, _, _, r => by unfold fvd fvv; exact r
  | f :: fs, _, _, _, _, .nil, r => by unfold fvd fvv; exact r
  | f :: fs, _, _, _, _, .cons q t, r => by
    show RpF K mg S (fvd ((f, _) :: _) fs _) (fvv ((f, _) :: _) fs _)
    exact fvd_rep t (.cons q r)
theorem fvv_rel : ∀ {fs : List Str} {vs : List V} {us : List Value} {dv : List (Str × V)} {du : List (Str × Value)}, Vals vs us → (∀ f, RelO (dv.lookup f) (fm du f)) → ∀ f, RelO ((fvv dv fs vs).lookup f) (fm (fvs du fs us) f)
  | [], _, _, _, _, _, r, f => by unfold fvv fvs; exact r f
  | g :: fs, _, _, _, _, .nil, r, f => by unfold fvv fvs; exact r f
  | g :: fs, _, _, dv, du, .cons q t, r, f => by
    refine fvv_rel (fs := fs) (dv := (g, _) :: dv) (du := (g, _) :: du) t (fun y => ?_) f
    exact relO_put q r y
theorem fvs_ne : ∀ {fs : List Str} {us : List Value} {dn : List (Str × Value)}, dn ≠ [] → fvs dn fs us ≠ []
  | [], _, _, h => h
  | _ :: _, [], _, h => h
  | f :: fs, u :: us, _, _ => fvs_ne (fs := fs) (List.cons_ne_nil _ _)
/-- C(e, ..) -/
def tMkX (C : Addr) (fs : List Str) (ta : TA) : L2.St → Hp → XK → Prop := fun σ H Q => ta σ H fun vs H1 => vs.length = fs.length ∧ ∀ d, H1 d = none → Q (.ref C) (some d) (upd H1 d (.xd (fvv [] fs vs)))
section
variable {X : Cx} {C fI : Addr} {e : Expr} {es : List Expr} {ta : TA} {x qual : Str} {p pos : Pos} {k : Nat} {params : Arguments} {scope : Scope} {fs : List Str} {text : Str} {kk : Nat} {p0 p1 p2 p3 p4 p5 : Pos} {rows : List Stmt}
theorem pmk_x (hpos : (p2.endLine == p3.line) = true) (T : OwnC X.prog X.K C fI qual params (supRow text kk p0 p1 p2 p3 p4 p5 :: rows) scope fs) (U : OwnS X.prog params scope fs) (r : FldRows fs rows) (hz : fs.length ≤ 900) (hne : fs ≠ []) (hr : Room k X.A)
    (hg : Gl X x) (hm : X.mg x = some (.ref C)) (hs : X.mg "super" = none) (hdb : (x == ("__debug__" : Str)) = false) (ha : PA X (e :: es) ta) (n : notStar e = true) (n2 : es.all notStar = true) :
    PMk X (.Call (.Name x p) (e :: es) [] pos) (tMkX C fs ta) := by
  intro pins s σ H Q I h
  refine wpAny_Call_Name_kw (ld_glob I hg hm ?_ hdb)
  refine PySem.W.callWith_K (h₀ := X.base) I.ok.mod.kin T.oex.kC (thn (ha.run pos pins s σ H _ I h) fun us s1 hh => ?_) (star_cons n) (star_any n2)
  obtain ⟨vs, H1, I1, r1, hl, q1⟩ := hh
  refine ⟨I1.kIn, ?_⟩
  show wpAny _ _ (call (.ref C) us) _ _ _
  have hlim := I1.nolimit
  have hG := I1.mod.glob.keeps I1.bk
  obtain ⟨mb, hb1, hb2⟩ := I1.mod.blt
  have hB := hb1.keeps I1.bk
  have hmb : mb "super" = some (.type "super") := (hb2 "super" (by decide)).trans (by decide +kernel)
  have hlu : us.length = fs.length := by rw [← r1.length]; exact hl
  obtain ⟨hp, g, dr, tk, os⟩ := s1
  refine wpAny_call (own_made hpos T U r hz I1.kIn hlim (by have := hr.dp; omega) hG hs hB hmb hlu fun h' tk' e dO M => ?_)
  show MkP X pins σ Q (.ref e) ⟨h', g, dr, tk', os⟩
  obtain ⟨t1, hoe⟩ := M.obj
  have dd := M.dict
  cases dO with
  | none =>
    exfalso
    have dd : fvs [] fs us = [] := dd
    cases fs with
    | nil => exact hne rfl
    | cons f fs =>
      cases us with
      | nil => simp at hlu
      | cons u us => exact fvs_ne (fs := fs) (us := us) (List.cons_ne_nil _ _) dd
  | some d =>
    obtain ⟨d1, d2, hns⟩ := dd
    obtain ⟨G', g1, g2⟩ := restrict h' fun b => decide (b ≠ e)
    have gk : ∀ b, b ≠ e → G'.get? b = h'.get? b := fun b hb => g1 b (decide_eq_true hb)
    have ge : G'.get? e = none := g2 e (by simp)
    have old : ∀ b o, hp.get? b = some o → G'.get? b = some o := fun b o q => (gk b (Nat.ne_of_lt (Nat.lt_of_lt_of_le (Heap.lt_size q) M.new))).trans (M.keep b o q)
    have ob : ObjOk X.prog X.w (upd H1 d (.xd (fvv [] fs vs))) G' d (.xd (fvv [] fs vs)) :=
      ⟨_, hns.at (fun o q => (gk d d2).trans q), fvv_rel r1 fun _ => True.intro⟩
    have J : Inv X pins σ (upd H1 d (.xd (fvv [] fs vs))) ⟨G', g, dr, tk', os⟩ := I1.laid (t' := tk') old d1 ob
    refine ⟨e, _, _, ⟨G', g, dr, tk', os⟩, _, .ref C, some d, rfl, J, fun b o q => ?_, ge, hoe, ⟨rfl, rfl⟩, rfl, rfl, ?_, rfl, I1.bare, raises_own T.oex.exC T.oex.tyC, q1 d (I1.hok.fresh d1)⟩
    · by_cases hb : b = e
      · have q' : G'.get? b = some o := q
        rw [hb, ge] at q'; cases q'
      · exact (gk b hb).symm.trans q
    · rw [upd_ne (Ne.symm d2)]
      exact I1.hok.fresh M.new
end
end PLX
namespace PL
open PySem PySem.Spec PyProof.Rows L2 PLX
/-- raise C(e, ..) -/
def sRaise (cls : Str) (fs : List Str) (a : pA) (xc : XC) : pS := fun _ e => a e fun ds e1 => ds.length = fs.length ∧ xc ⟨cls, fvd [] fs ds⟩ e1
section
variable {X : Cx} {C : Cfg} {cl : Addr} {es : List Expr} {eX : Expr} {pos : Pos} {pa : pA} {xc : XC} {cls : Str} {fs : List Str}
theorem ms_raise (hc : X.calm = true) (tk : Takes X (canX C xc)) (hm : C.mg cls = some (.ref cl)) (h : ∀ ta, PA X es ta → PMk X eX (tMkX cl fs ta)) (ha : PA X es (canK C pa)) : PS X (.Raise (some eX) none pos) (canS C (sRaise cls fs pa xc)) :=
  S.up (ps_raise hc tk (h _ ha)) fun Dn σ H ts vs e Q R h k => ⟨ts, vs, e, _, R, h, fun S ds e1 ws H1 R1 rs ⟨hl, hx⟩ => ⟨by rw [← rs.length]; exact hl, fun d hd => by
    have R2 : RepAt C (upd S d (.xd (fvv [] fs ws))) ts vs e1 σ (upd H1 d (.xd (fvv [] fs ws))) := R1.alloc hd
    refine ⟨ts, vs, e1, _, _, R2, ⟨cl, d, _, hm, rfl, rfl, upd_same, ?_⟩, hx⟩
    exact fvd_rep (rs.mono (Le.upd (R1.freeS hd))) .nil⟩⟩

/-! ### try .. except -/
/-- exceptions are let go -/
def noX : Option Sv → Option Sv
  | some (.exn _) => none
  | o => o
def noExn (e : PEnv) : PEnv := e.map noX
theorem noExn_len (e : PEnv) : (noExn e).length = e.length := by simp [noExn]
theorem noExn_get {e : PEnv} {i : Nat} {sv : Sv} (h : (noExn e)[i]? = some (some sv)) : e[i]? = some (some sv) ∧ ∀ x, sv ≠ .exn x := by
  unfold noExn at h
  rw [List.getElem?_map] at h
  cases q : e[i]? with
  | none => rw [q] at h; cases h
  | some o =>
    rw [q] at h
    cases o with
    | none => cases h
    | some sv' =>
      cases sv' with
      | exn x => cases h
      | val d => cases h; exact ⟨rfl, fun x z => by cases z⟩
      | own d => cases h; exact ⟨rfl, fun x z => by cases z⟩
      | bor d => cases h; exact ⟨rfl, fun x z => by cases z⟩
theorem noExn_own (a : Addr) : ∀ (e : PEnv) (σ : L2.St), ownS a (noExn e) σ ≤ ownS a e σ
  | [], σ => by simp [noExn, ownS]
  | o :: e, [] => by simp [noExn, ownS]
  | o :: e, y :: σ => by
    have := noExn_own a e σ
    have h : ownO a (noX o) y ≤ ownO a o y := by
      unfold noX
      split
      · simp [ownO]
      · exact Nat.le_refl _
    show ownO a (noX o) y + ownS a (noExn e) σ ≤ ownO a o y + ownS a e σ
    omega
theorem SvRep.xch {ex ex' : Option (Addr × Value × Option Addr)} {S H : Hp} {sv : Sv} {v : V} (h : SvRep { C with ex := ex } S H sv v) (n : ∀ x, sv ≠ .exn x) : SvRep { C with ex := ex' } S H sv v := by
  cases sv with
  | val d => exact h
  | own m => obtain ⟨a, h0, h1, h2, h3⟩ := h; exact ⟨a, h0, h1, h2, h3.cfg rfl rfl⟩
  | bor m => obtain ⟨a, h0, h1, h2, h3⟩ := h; exact ⟨a, h0, h1, h2, h3.cfg rfl rfl⟩
  | exn x => exact absurd rfl (n x)
/-- out of an except suite -/
theorem RepAt.leave {ex ex' : Option (Addr × Value × Option Addr)} {S H : Hp} {ts : List Sv} {vs : List V} {e : PEnv} {σ : L2.St} (R : RepAt { C with ex := ex } S ts vs e σ H) (ht : ∀ t ∈ ts, ∀ x, t ≠ .exn x) : RepAt { C with ex := ex' } S ts vs (noExn e) σ H where
  sub := R.sub
  ext := R.ext
  new := R.new
  fr := R.fr
  rf := R.rf
  tmp := Paired.mapI R.tmp fun x y hx h => SvRep.xch h (ht x hx)
  len := by rw [noExn_len]; exact R.len
  slot := fun i sv h => by
    obtain ⟨h1, h2⟩ := noExn_get h
    obtain ⟨v, h3, h4⟩ := R.slot i sv h1
    exact ⟨v, h3, SvRep.xch h4 h2⟩
  dist := fun a => by have := R.dist a; have := noExn_own a e σ; show _ + _ ≤ 1; omega
/-- into one: no exception is held -/
theorem RepAt.enter {ex' : Option (Addr × Value × Option Addr)} {S H : Hp} {ts : List Sv} {vs : List V} {e : PEnv} {σ : L2.St} (he : C.ex = none) (R : RepAt C S ts vs e σ H) : RepAt { C with ex := ex' } S ts vs e σ H where
  sub := R.sub
  ext := R.ext
  new := R.new
  fr := R.fr
  rf := R.rf
  tmp := Paired.mapI R.tmp fun x y hx h => SvRep.xch (C := C) (ex := C.ex) h fun z q => by
    subst q
    obtain ⟨a, cl, dd, gs, h0, _⟩ := h
    rw [he] at h0; cases h0
  len := R.len
  slot := fun i sv h => by
    obtain ⟨v, h3, h4⟩ := R.slot i sv h
    exact ⟨v, h3, SvRep.xch (C := C) (ex := C.ex) h4 fun z q => by
      subst q
      obtain ⟨a, cl, dd, gs, h0, _⟩ := h4
      rw [he] at h0; cases h0⟩
  dist := R.dist

/-- a part that is walked by itself: what the slots do not hold stays -/
def Cfg.inn (C : Cfg) (S H : Hp) (e : PEnv) (σ : L2.St) : Cfg where
  K := C.K
  mg := C.mg
  S0 := S
  H0 := fun a => if ownS a e σ = 1 then C.H0 a else H a
  R := match C.R with
    | some a => if ownS a e σ = 1 then some a else none
    | none => none
  ex := C.ex
theorem inn_R {S H : Hp} {e : PEnv} {σ : L2.St} {a : Addr} (h : (C.inn S H e σ).R = some a) : C.R = some a ∧ ownS a e σ = 1 := by
  unfold Cfg.inn at h
  dsimp only at h
  cases q : C.R with
  | none => rw [q] at h; cases h
  | some b =>
    rw [q] at h
    dsimp only at h
    split at h
    · cases h; rename_i z; exact ⟨rfl, z⟩
    · cases h
theorem inn_H0 {S H : Hp} {e : PEnv} {σ : L2.St} {a : Addr} : (C.inn S H e σ).H0 a = if ownS a e σ = 1 then C.H0 a else H a := rfl
theorem SvRep.inn {S H : Hp} {e : PEnv} {σ : L2.St} {sv : Sv} {v : V} (h : SvRep C S H sv v) (k : ∀ a, own1 a sv v = 1 → ownS a e σ = 1) : SvRep (C.inn S H e σ) S H sv v := by
  cases sv with
  | val d => exact h
  | own m =>
    obtain ⟨a, rfl, h1, h2, h3⟩ := h
    exact ⟨a, rfl, by rw [inn_H0, if_pos (k a (by simp [own1]))]; exact h1, h2, h3.cfg rfl rfl⟩
  | bor m =>
    obtain ⟨a, rfl, h1, h2, h3⟩ := h
    refine ⟨a, rfl, ?_, h2, h3.cfg rfl rfl⟩
    unfold Cfg.inn
    dsimp only
    rw [h1]
    exact if_pos (k a (by simp [own1]))
  | exn x => exact h
theorem RepAt.inner {S H : Hp} {ts : List Sv} {vs : List V} {e : PEnv} {σ : L2.St} (R : RepAt C S ts vs e σ H) : RepAt (C.inn S H e σ) S [] [] e σ H where
  sub := R.sub
  ext := Le.refl S
  new := fun a o q => .inl ⟨o, q⟩
  fr := fun a o q n => by
    rw [inn_H0] at q
    split at q
    · rename_i z
      rcases (R.held (a := a) (by have := R.dist a; omega)).2.2 with w | w
      · rw [q] at w; cases w
      · refine absurd ?_ n
        unfold Cfg.inn
        dsimp only
        rw [w]
        exact if_pos z
    · exact q
  rf := fun a q => R.rf a (inn_R q).1
  tmp := .nil
  len := R.len
  slot := fun i sv h => by
    obtain ⟨v, h1, h2⟩ := R.slot i sv h
    refine ⟨v, h1, SvRep.inn h2 fun a q => ?_⟩
    have l := ownS_ge (a := a) h h1
    have := R.dist a
    omega
  dist := fun a => by have := R.dist a; show ownT a [] [] + _ ≤ 1; show 0 + _ ≤ 1; omega
theorem SvRep.out1 {S S' H H' : Hp} {ts : List Sv} {vs : List V} {e : PEnv} {σ : L2.St} {sv : Sv} {v : V} (R : RepAt C S ts vs e σ H) (h : SvRep (C.inn S H e σ) S' H' sv v) : SvRep C S' H' sv v := by
  cases sv with
  | val d => exact h
  | own m =>
    obtain ⟨a, rfl, h1, h2, h3⟩ := h
    rw [inn_H0] at h1
    split at h1
    · exact ⟨a, rfl, h1, h2, h3.cfg rfl rfl⟩
    · exact ⟨a, rfl, R.free0 h1, h2, h3.cfg rfl rfl⟩
  | bor m =>
    obtain ⟨a, rfl, h1, h2, h3⟩ := h
    exact ⟨a, rfl, (inn_R h1).1, h2, h3.cfg rfl rfl⟩
  | exn x => exact h

theorem RepAt.outer {S S' H H' : Hp} {ts tt : List Sv} {vs tv : List V} {e e' : PEnv} {σ σ' : L2.St} (R : RepAt C S ts vs e σ H) (R' : RepAt (C.inn S H e σ) S' tt tv e' σ' H') (hl : tt.length = tv.length) : RepAt C S' (tt ++ ts) (tv ++ vs) e' σ' H' := by
  have keep : ∀ a, ownT a ts vs = 1 → H' a = H a ∧ S' a = none := fun a q => by
    have d := R.dist a
    have n : ¬ ownS a e σ = 1 := by omega
    obtain ⟨⟨o, ho⟩, hs, _⟩ := R.held (a := a) (by omega)
    have h0 : (C.inn S H e σ).H0 a = some o := by rw [inn_H0, if_neg n]; exact ho
    refine ⟨(R'.fr a o h0 fun w => n (inn_R w).2).trans ho.symm, ?_⟩
    cases x : S' a with
    | none => rfl
    | some u =>
      rcases R'.new a u x with ⟨o', z⟩ | z
      · have z : S a = some o' := z; rw [hs] at z; cases z
      · rw [h0] at z; cases z
  refine { sub := R'.sub, ext := fun a o q => R'.ext a o (R.ext a o q), new := fun a o q => ?_, fr := fun a o q n => ?_, rf := fun a q => ?_, tmp := ?_, len := R'.len, slot := fun i sv h => ?_, dist := fun a => ?_ }
  · rcases R'.new a o q with ⟨o', z⟩ | z
    · exact R.new a o' z
    · rw [inn_H0] at z
      split at z
      · exact .inr z
      · exact .inr (R.free0 z)
  · have ho := R.fr a o q n
    have ns : ¬ ownS a e σ = 1 := fun z => by
      rcases (R.held (a := a) (by have := R.dist a; omega)).2.2 with w | w
      · rw [q] at w; cases w
      · exact n w
    exact R'.fr a o (by rw [inn_H0, if_neg ns]; exact ho) fun w => ns (inn_R w).2
  · by_cases z : ownS a e σ = 1
    · refine R'.rf a ?_
      unfold Cfg.inn
      dsimp only
      rw [q]
      exact if_pos z
    · obtain ⟨o, ho⟩ := R.rf a q
      exact ⟨o, R'.fr a o (by rw [inn_H0, if_neg z]; exact ho) fun w => z (inn_R w).2⟩
  · refine paired_app (Paired.mapI R'.tmp fun x y _ h => SvRep.out1 R h) ?_
    have le : Le S S' := R'.ext
    exact tmp_mono R.tmp le fun a q => keep a (by have := R.dist a; omega)
  · obtain ⟨v, h1, h2⟩ := R'.slot i sv h
    exact ⟨v, h1, SvRep.out1 R h2⟩
  · rw [ownT_app a hl ts vs]
    have d := R'.dist a
    have d0 := R.dist a
    by_cases q : ownT a ts vs = 1
    · have n : ¬ ownS a e σ = 1 := by omega
      have z : ¬ ownT a tt tv + ownS a e' σ' = 1 := fun z => by
        obtain ⟨⟨o, ho⟩, _, w⟩ := R'.held z
        obtain ⟨⟨o2, ho2⟩, _, _⟩ := R.held (a := a) (by omega)
        rcases w with w | w
        · rw [inn_H0, if_neg n, ho2] at w; cases w
        · exact n (inn_R w).2
      omega
    · omega
end
end PL
set_option Elab.async false
set_option linter.all false
set_option maxRecDepth 100000
set_option maxHeartbeats 4000000
/-! PL10: try .. except over plain data; the caught error's class and fields. -/
namespace PLX
open PySem PySem.Spec PySem.Calls PyProof.Rows
open PySem.W
section
variable {prog : Program} {w : World} {A : Around} {E : Value → Shared → Prop} {s : Shared} {K : Frag} {x D : Addr} {ox : Obj} {odx : Option Obj}
theorem findObj_dataX {C : Addr} {name : Str} {a g : Value} (hc : (clsIn K C).isSome = true) (ha : findIn K (.ref C) name = some (some a)) (hg : specialIn K a "__get__" = some (some g)) (ht : takesIn K a = some true) : findObj K C odx name = some (.bind g a) := by
  obtain ⟨cd, hc⟩ := Option.isSome_iff_exists.mp hc
  unfold findObj
  rw [hc, Option.bind_some, ha, Option.bind_some]
  simp [hg, ht]
theorem kin_classX {Q : Option Value → Shared → Prop} (T : L2.ExcC K D) (X : K.In s.heap) (I : InstAt s.heap x ox D odx) (h : Q (some (.ref D)) { s with toks := s.toks + 1 }) : wpAny (model prog w) A (getAttr? (.ref x) "__class__") Q E s := by
  have hga := T.hg
  have hgt := T.hk
  have hsub := T.hs
  have hf : findObj K D odx "__class__" = some (.bind (.builtin "getset_descriptor.__get__") (.builtin "object.__class__")) := findObj_dataX (by obtain ⟨cd, hc, _⟩ := any_some T.hd; rw [hc]; rfl) T.ha T.hn T.ht
  obtain ⟨hp, g, d, t, os⟩ := s
  have L0 := I.type (M := model prog w)
  have L1 := looks_findIn (M := model prog w) X hga
  have L2 := looks_findIn (M := model prog w) X hgt
  have L3 := looks_find (M := model prog w) X I hf
  have sub : Looks (model prog w) hp (isInstance (.ref x) (.type "BaseException")) true := L0.andThen (looks_subIn X hsub)
  have hx0 : (false && onTheHeap (Value.builtin "BaseException.__getattribute__")) = false := rfl
  have hx2 : (Value.builtin "BaseException.__getattribute__" == Value.builtin "object.__getattribute__") = false := by decide +kernel
  have hx1 : (onTheHeap (Value.ref D) && Value.builtin "BaseException.__getattribute__" == Value.builtin "object.__getattribute__") = false := by rw [hx2]; rfl
  unfold getAttr? getAttrBy? getAttrBy
  refine wpAny_bind (wpAny_mkText (wpAny_bind (wpAny_attempt (wpAny_holding (wpAny_bind (L0.at (wpAny_bind (L1.at ?_))))))))
  show wpAny _ _ (if (onTheHeap (Value.ref D) && Value.builtin "BaseException.__getattribute__" == Value.builtin "object.__getattribute__") = true then _ else _) _ _ _
  rw [hx1, if_neg Bool.false_ne_true]
  unfold getAttrByItsOwn hookBefore
  refine wpAny_bind ?_
  rw [if_pos (show onTheHeap (Value.ref D) = true from rfl)]
  refine L2.at ?_
  refine wpAny_bind (wpAny_attempt (wpAny_holding ?_))
  unfold callGetattribute
  rw [hx0, if_neg Bool.false_ne_true]
  unfold boundAndCalled
  rw [PySem.F.excAttr_ValueError.ga.bind (.ref x)]
  refine wpAny_bind (wpAny_pure ?_)
  show wpAny _ _ (call (.builtin "BaseException.__getattribute__") [.ref x, .str "__class__" t]) _ _ _
  refine wpAny_call (codeAny_call_builtin PySem.F.excAttr_ValueError.ga.plain PySem.F.entry_bexc_ga ?_)
  refine @check_slot (model prog w) _ _ ⟨hp, g, d, t + 1, os⟩ "BaseException.__getattribute__" "BaseException" "__getattribute__" (.ref x) [.str "__class__" t] [] _ (by decide +kernel) (by decide +kernel) sub (PySem.F.args_bexc_ga (.ref x) (.str "__class__" t)) ?_
  unfold Builtin.«object.__getattribute__»
  refine wpAny_bind (wpAny_of_eq (a := ((Value.ref x : Value), [Value.str "__class__" t])) (by first | rfl | (simp only [slotArgs]; rfl)) ?_)
  refine wpAny_bind (wpAny_pure (wpAny_bind (L0.at (wpAny_bind (L3.at ?_)))))
  show wpAny _ _ (holding [Value.builtin "object.__class__"] (call (.builtin "getset_descriptor.__get__") [.builtin "object.__class__", .ref x, .ref D]) >>= ret) _ _ _
  refine wpAny_bind (wpAny_holding (wpAny_call (class_get (s := ⟨hp, g, d, t + 1, os⟩) (ox := ox) (od := odx) X I T.hm ?_)))
  refine wpAny_pure ?_
  show wpAny _ _ (handedOut (.ref D)) _ _ _
  rw [handedOut_of (v := .ref D) rfl]
  first
    | exact wpAny_pure (wpAny_pure h)
    | exact wpAny_pure h
    | exact wpAny_pure (wpAny_bind (wpAny_pure (wpAny_pure h)))
theorem kitx_exc (T : L2.ExcC K D) : KitX K (.ref x) (.ref D) (fun h => ∃ od, InstAt h x ox D od) where
  ty := fun _ _ _ ⟨od, I⟩ => I.type
  it := fun _ _ X _ => by
    obtain ⟨cdD, hcD, _⟩ := any_some T.hd
    unfold clsIn at hcD
    split at hcD
    · rename_i c' d' cd' sl' ho
      intro A' Q' E' s' k q
      unfold isType loadHead
      exact wpAny_bind (wpAny_loadPart (k _ _ (X _ _ ho)) (wpAny_pure q))
    · cases hcD
  ne := fun h tp dd its n sl X htp => by
    obtain ⟨cdD, hcD, _⟩ := any_some T.hd
    refine Bool.eq_false_iff.mpr fun q => ?_
    have e : D = tp := Value.ref.inj (beq_iff_eq.mp q)
    subst e
    unfold clsIn at hcD
    split at hcD
    · rename_i c' d' cd' sl' ho
      have z := (X _ _ ho).symm.trans htp
      cases z
    · cases hcD
  ca := fun X ⟨od, I⟩ k => kin_classX T X I k
end
end PLX
namespace PL
open PySem PySem.Spec PyProof.Rows L2 PLX
/-- isinstance(e, c), e the exception that the suite holds -/
def rIsX (K : PySem.W.Frag) (D a dd : Addr) : List V → Hp → VK → Prop := fun xs H Q => ∃ (c : V) (cv : Value) (b : Bool) (gs : List (Str × V)), xs = [.ref a, c] ∧ (∀ u, RelV c u → u = cv) ∧ PySem.W.kitOne K (.ref D) cv = some b ∧ H dd = some (.xd gs) ∧ Q (.bl b) H
theorem call_isX {X : Cx} {a D dd : Addr} {oe : Obj} {pn : List (Addr × Obj)} (C : ExcC X.K D) (hz : Zc (.ref D) (some dd) oe) (hf : ∃ vs, oe.data = .fields vs) : CallR (X.suite a ((a, oe) :: pn)) (.builtin "isinstance") (rIsX X.K D a dd) := by
  intro pins s σ H xs us Q I r h
  obtain ⟨c, cv, b, gs, rfl, hcv, e, hg, q⟩ := h
  cases r with
  | cons rx rr =>
    cases rr with
    | cons rt rr =>
      cases rr
      cases rx
      have ec := hcv _ rt
      subst ec
      obtain ⟨hget, _⟩ := I.pin (a, oe) (List.mem_append.mpr (.inl List.mem_cons_self))
      obtain ⟨vs, hv⟩ := hf
      have hx : ObjOk X.prog X.w H s.heap dd (.xd gs) := I.hok dd _ hg
      obtain ⟨mA, hns, hr⟩ := hx
      obtain ⟨od, _, _, ho, _⟩ := id hns
      have J : PySem.W.InstAt s.heap a oe D (some od) := ⟨hget, hz.1, by unfold PySem.W.notCls; rw [hv] <;> rfl, by rw [hz.2]; exact ho⟩
      exact PySem.W.kia_one (kitx_exc C) I.kIn ⟨_, J⟩ e (fun z => nomatch z) fun tk => ⟨.bl b, H, I.kept (t' := tk) fun _ _ z => z, rfl, q⟩

/-- isinstance(e, N), e the name of the caught error -/
def pIsX (i : Nat) (f : Str → Option Bool) : pE := fun e P => ∃ x b, e[i]? = some (some (.exn x)) ∧ f x.cls = some b ∧ P (.val (.bl b)) e
/-- e.f -/
def pXf (i : Nat) (f : Str) : pE := fun e P => ∃ x, e[i]? = some (some (.exn x)) ∧ getF x.fs f fun z => P z e
/-- the ends of an except suite -/
def lvEnds (Q : pEnds) (i : Nat) : pEnds where
  nx := fun e => Q.nx ((noExn e).set i none)
  rt := fun sv e => isOut sv ∧ Q.rt sv ((noExn e).set i none)
  bk := fun e => Q.bk ((noExn e).set i none)
  ct := fun e => Q.ct ((noExn e).set i none)
/-- try: body / except c as n: suite -/
def sTryAs (i : Nat) (f : Str → Option Bool) (body : XC → pS) (suite : pS) (xc : XC) : pS := fun Q e => body (fun x e1 => ∃ b, f x.cls = some b ∧ (b = true → suite (lvEnds Q i) (e1.set i (some (.exn x)))) ∧ (b = false → xc x e1)) Q e
/-- .. except c: suite -/
def lvEnds0 (Q : pEnds) : pEnds where
  nx := fun e => Q.nx (noExn e)
  rt := fun sv e => isOut sv ∧ Q.rt sv (noExn e)
  bk := fun e => Q.bk (noExn e)
  ct := fun e => Q.ct (noExn e)
def sTryOnly (f : Str → Option Bool) (body : XC → pS) (suite : pS) (xc : XC) : pS := fun Q e => body (fun x e1 => ∃ b, f x.cls = some b ∧ (b = true → suite (lvEnds0 Q) e1) ∧ (b = false → xc x e1)) Q e
section
variable {X : Cx} {C : Cfg} {pos : Pos} {xc : XC} {e : Expr} {i : Nat}
theorem me_isX {a D dd : Addr} {oe : Obj} {pn : List (Addr × Obj)} {x2 eX : Expr} {f : Str → Option Bool} {cN : Addr} (T : ExcC X.K D) (hz : Zc (.ref D) (some dd) oe) (hf : ∃ vs, oe.data = .fields vs) (hC : C.ex = some (a, .ref D, some dd)) (hmg : X.mg = C.mg)
    (ft : ∀ x b, f x = some b → C.mg x = some (.ref D) → PySem.W.kitOne X.K (.ref D) (.ref cN) = some b)
    (h : ∀ ta, CallR (X.suite a ((a, oe) :: pn)) (.builtin "isinstance") (rIsX X.K D a dd) → PA (X.suite a ((a, oe) :: pn)) [e, x2] ta → PE (X.suite a ((a, oe) :: pn)) eX (tCB (rIsX X.K D a dd) ta)) (n : notStar e = true) (n2 : notStar x2 = true)
    (he : PE (X.suite a ((a, oe) :: pn)) e (tVar i)) (h2 : PE (X.suite a ((a, oe) :: pn)) x2 (tC (.ref cN))) : PE (X.suite a ((a, oe) :: pn)) eX (canE C (pIsX i f)) :=
  (h _ (call_isX T hz hf) (pa_cons he (pa_cons h2 pa_nil (star_cons n2)) (star_cons n))).up fun σ H Q ⟨ts, vs, e1, P, ⟨S, R⟩, ⟨x, b, hx, hb, hP⟩, k⟩ => by
    obtain ⟨v, h1, h2⟩ := R.slot i _ hx
    obtain ⟨a', cl, d', gs, h3, rfl, h5, h6, h7⟩ := h2
    rw [hC] at h3
    cases h3
    exact ⟨_, h1, .ref cN, .ref cN, b, gs, rfl, fun u r => r, ft _ _ hb h5, R.sub _ _ h6, k _ e1 _ H ⟨S, R.pushV (.bl b)⟩ hP⟩
theorem me_xf {a D dd : Addr} {oe : Obj} {pn : List (Addr × Obj)} {f : Str} (T : XfC X.K D) (hno : PySem.W.findIn X.K (.ref D) f = some none) (hz : Zc (.ref D) (some dd) oe) (hf : ∃ vs, oe.data = .fields vs) (hC : C.ex = some (a, .ref D, some dd))
    (he : PE (X.suite a ((a, oe) :: pn)) e (tVar i)) (hb : attributeBase e f (X.suite a ((a, oe) :: pn)).env (eval e (X.suite a ((a, oe) :: pn)).env) = eval e (X.suite a ((a, oe) :: pn)).env) : PE (X.suite a ((a, oe) :: pn)) (.Attribute e f pos) (canE C (pXf i f)) :=
  (pe_xf (n := f) T hno hz hf he hb).up fun σ H Q ⟨ts, vs, e1, P, ⟨S, R⟩, ⟨x, hx, d, hd, hP⟩, k⟩ => by
    obtain ⟨v, h1, h2⟩ := R.slot i _ hx
    obtain ⟨a', cl, d', gs, h3, rfl, h5, h6, h7⟩ := h2
    rw [hC] at h3
    cases h3
    obtain ⟨u, h8, h9⟩ := h7.lookup hd
    exact ⟨_, h1, rfl, rfl, dd, gs, u, rfl, R.sub _ _ h6, h8, k _ e1 u H ⟨S, R.pushV h9⟩ hP⟩

/-- what the body of a try is read as -/
def tTryB (C : Cfg) (p : XC → pS) (W : WX) : TS := fun Dn σ H => ∃ (C' : Cfg) (xc : XC), (C'.K = C.K ∧ C'.mg = C.mg ∧ C'.ex = C.ex) ∧ (∀ cls d σ H, canX C' xc cls d σ H → W cls d σ H) ∧ canS C' (p xc) Dn σ H
theorem try_body {st : List Stmt} {p : XC → pS} {W : WX} (tk : Takes X W) (h : ∀ (C' : Cfg) (xc : XC), C'.K = C.K → C'.mg = C.mg → C'.ex = C.ex → Takes X (canX C' xc) → PSs X st (canS C' (p xc))) : PSs X st (tTryB C p W) :=
  ⟨fun pins s σ H Dn I ⟨C', xc, hc, hW, w⟩ => (h C' xc hc.1 hc.2.1 hc.2.2 (tk.imp hW)).run pins s σ H Dn I w⟩
/-- what its suite is read as -/
def tTryS (C : Cfg) (f : Str → Option Bool) (p : pS) (a : Addr) (cls : Value) (d : Option Addr) : TS := fun Dn σ H => ∃ (C' : Cfg) (x : Exn) (cl dd : Addr), (C'.K = C.K ∧ C'.mg = C.mg ∧ C'.ex = some (a, cls, d)) ∧ (cls = .ref cl ∧ d = some dd ∧ C.mg x.cls = some (.ref cl) ∧ ∃ b, f x.cls = some b) ∧ canS C' p Dn σ H
theorem try_suite {f : Str → Option Bool} {a : Addr} {oe : Obj} {cls : Value} {d : Option Addr} {pn : List (Addr × Obj)} {st : List Stmt} {p : pS} (hz : Zc cls d oe) (hf : ∃ vs, oe.data = .fields vs)
    (h : ∀ (C' : Cfg) (x : Str) (cl dd : Addr), C'.K = C.K → C'.mg = C.mg → C'.ex = some (a, .ref cl, some dd) → C.mg x = some (.ref cl) → (∃ b, f x = some b) → Zc (.ref cl) (some dd) oe → PSs (X.suite a ((a, oe) :: pn)) st (canS C' p)) : PSs (X.suite a ((a, oe) :: pn)) st (tTryS C f p a cls d) :=
  ⟨fun pins s σ H Dn I ⟨C', x, cl, dd, hc, hx, w⟩ => by
    obtain ⟨e1, e2, e3, e4⟩ := hx
    subst e1; subst e2
    exact (h C' x.cls cl dd hc.1 hc.2.1 hc.2.2 e3 e4 hz).run pins s σ H Dn I w⟩
theorem ms_tryAs {st : Stmt} {c : Addr} {p : XC → pS} {ps : pS} {f : Str → Option Bool} (hK : X.K = C.K) (hex : C.ex = none) (ft : ∀ x b cl, f x = some b → C.mg x = some (.ref cl) → PySem.W.exmOne X.K (.ref cl) (.ref c) = some b)
    (h : PS X st (fun D σ H => tTryB C p (wAs X.K (.ref c) i (tTryS C f ps) (canX C xc) D) D σ H)) : PS X st (canS C (sTryAs i f p ps xc)) :=
  S.up h fun Dn σ H ts vs e Q ⟨S, R⟩ h k => by
    refine ⟨C.inn S H e σ, _, ⟨rfl, rfl, rfl⟩, fun cls d σ' H' hx => ?_, useS ⟨S, R.inner⟩ h ⟨fun e' σ' H' ⟨S', R'⟩ h' => k.nx e' σ' H' ⟨S', R.outer R' (tt := []) (tv := []) rfl⟩ h', fun sv e' v σ' H' ⟨S', R'⟩ h' => k.rt sv e' v σ' H' ⟨S', R.outer R' (tt := [sv]) (tv := [v]) rfl⟩ h',
      fun e' σ' H' ⟨S', R'⟩ h' => k.bk e' σ' H' ⟨S', R.outer R' (tt := []) (tv := []) rfl⟩ h', fun e' σ' H' ⟨S', R'⟩ h' => k.ct e' σ' H' ⟨S', R.outer R' (tt := []) (tv := []) rfl⟩ h'⟩⟩
    obtain ⟨ts', vs', e', x, S', R', hat, b, hb, hyes, hno⟩ := hx
    obtain ⟨cl, dd, gs, m1, rfl, rfl, m4, m5⟩ := hat
    refine ⟨b, ft _ _ _ hb m1, fun e1 a ha => ?_, fun e1 => ⟨ts, vs, e', x, S', R.outer R'.noT (tt := []) (tv := []) rfl, ⟨cl, dd, gs, m1, rfl, rfl, m4, m5⟩, hno e1⟩⟩
    have R1 : RepAt { C.inn S H e σ with ex := some (a, .ref cl, some dd) } S' [] [] e' σ' H' := R'.noT.enter hex
    have R2 : RepAt { C.inn S H e σ with ex := some (a, .ref cl, some dd) } S' [.exn x] [.ref a] e' σ' H' := R1.push ⟨a, cl, dd, gs, rfl, rfl, m1, m4, m5⟩ fun b => by
      rw [own1_exn]
      have := R1.dist b
      omega
    have R3 := R2.store (i := i)
    have back : ∀ {tt : List Sv} {tv : List V} {e2 : PEnv} {σ2 : L2.St} {H2 S2 : Hp} {o : Option V}, RepAt { C.inn S H e σ with ex := some (a, .ref cl, some dd) } S2 tt tv e2 σ2 H2 → (∀ t ∈ tt, ∀ x, t ≠ .exn x) → tt.length = tv.length → RepAt C S2 (tt ++ ts) (tv ++ vs) ((noExn e2).set i none) (σ2.set i o) H2 := fun {tt tv e2 σ2 H2 S2 o} Rz ht hl => by
      have R4 : RepAt (C.inn S H e σ) S2 tt tv (noExn e2) σ2 H2 := RepAt.leave (C := C.inn S H e σ) (ex' := C.ex) Rz ht
      exact (R.outer R4 hl).forget o
    refine ⟨{ C.inn S H e σ with ex := some (a, .ref cl, some dd) }, x, cl, dd, ⟨rfl, rfl, rfl⟩, ⟨rfl, rfl, m1, b, hb⟩, useS ⟨S', R3⟩ (hyes e1) ⟨?_, ?_, ?_, ?_⟩⟩
    · exact fun e2 σ2 H2 ⟨S2, Rz⟩ h2 => k.nx _ _ H2 ⟨S2, back Rz (fun t z => by cases z) rfl⟩ h2
    · intro sv e2 v σ2 H2 ⟨S2, Rz⟩ ⟨ho, h2⟩
      refine k.rt sv _ v σ2 H2 ⟨S2, ?_⟩ h2
      have Rw := back (o := (σ2[i]?).getD none) Rz (fun t z y q => by
        have e : t = sv := by simpa using z
        subst e; subst q
        exact ho.elim) rfl
      have es : σ2.set i ((σ2[i]?).getD none) = σ2 := by
        by_cases hi : i < σ2.length
        · have : (σ2[i]?).getD none = σ2[i] := by simp [hi]
          rw [this]
          exact List.set_getElem_self hi
        · exact List.set_eq_of_length_le (by omega)
      rw [es] at Rw
      exact Rw
    · exact fun e2 σ2 H2 ⟨S2, Rz⟩ h2 => k.bk _ _ H2 ⟨S2, back Rz (fun t z => by cases z) rfl⟩ h2
    · exact fun e2 σ2 H2 ⟨S2, Rz⟩ h2 => k.ct _ _ H2 ⟨S2, back Rz (fun t z => by cases z) rfl⟩ h2
end
end PL
set_option Elab.async false
set_option linter.all false
set_option maxRecDepth 100000
set_option maxHeartbeats 4000000
/-! PLN: more words: extend, join, split, x[::-1], range of three, the module's dicts. -/
namespace PL
open PySem PySem.Spec PyProof.Rows L2

def pExtend (i : Nat) (a : pE) : pE := fun e P => (∃ sv, e[i]? = some (some sv) ∧ (heldL sv).isSome = true) ∧ pF a e fun d e1 => ∃ sv ds zs, e1[i]? = some (some sv) ∧ heldL sv = some ds ∧ d = .lst zs ∧ ds.length + zs.length ≤ sizeLine ∧ P (.val .non) (e1.set i (some (reHold sv (.lst (ds ++ zs)))))
/-- sep.join(xs) -/
def pJoin (a : pE) (b : pV) : pE := fun e P => pF a e fun x e1 => ∃ s, x = .str s ∧ b e1 fun y e2 => ∃ ys : List Str, (y = .lst (ys.map D.str) ∨ y = .tup (ys.map D.str)) ∧ (ys.map (·.length)).sum + ys.length * s.length ≤ 16777216 ∧ P (.val (.str (Txt.join s ys))) e2
/-- z.split(sep) -/
def pSplit (a b : pE) : pE := fun e P => pF a e fun x e1 => ∃ z, x = .str z ∧ pF b e1 fun y e2 => ∃ s, y = .str s ∧ (s.length == 0) = false ∧ z.length + 2 ≤ sizeLine ∧ P (.own (.lst ((Txt.split z s).map D.str))) e2
/-- xs[::-1] of a list -/
def pRevL (a : pV) : pE := fun e P => a e fun d e1 => ∃ ds, d = .lst ds ∧ P (.own (.lst ds.reverse)) e1
def stepD (i c : Int) (n : Nat) : List D := (List.range n).map fun (k : Nat) => .int (i + k * c)
def iRange3 (a b c : pE) : pI := fun e P => pF a e fun d e1 => pF b e1 fun d2 e2 => pF c e2 fun d3 e3 => ∃ i j k n, d = .int i ∧ d2 = .int j ∧ d3 = .int k ∧ RgC i j k n ∧ P (stepD i k n) e3
/-- x in T, T[x]: T a dict of the module with texts as keys -/
def pInK (neg : Bool) (kvs : List (Str × D)) (a : pE) : pE := fun e P => pF a e fun d e1 => ∃ z, d = .str z ∧ P (.val (.bl (if neg = true then !(kvs.lookup z).isSome else (kvs.lookup z).isSome))) e1
def pIxK (kvs : List (Str × D)) (b : pV) : pE := fun e P => b e fun d e1 => ∃ z u, d = .str z ∧ kvs.lookup z = some u ∧ P (.val u) e1

section
variable {X : Cx} {C : Cfg} {a b c ex : Expr} {pos : Pos} {pa pb pc p : pE} {q : pV}
theorem me_extend {i : Nat} (h : ∀ t, PE X b t → PE X ex (tBM X.K "list" rExtend (tVar i) (tCons t tNil))) (hb : PE X b (canE C pb)) : PE X ex (canE C (pExtend i pb)) :=
  (h _ hb).up fun σ H Q ⟨ts, vs, e, P, ⟨S, R⟩, ⟨⟨s0, hs0, hl0⟩, h⟩, k⟩ => by
    obtain ⟨ds0, hd0⟩ := Option.isSome_iff_exists.mp hl0
    obtain ⟨p, xs, ha, hx, rs, _⟩ := R.addr hs0 hd0
    refine ⟨_, ha, .inl ⟨rfl, _, SqL.of hx⟩, useF ⟨S, R⟩ h fun d e1 w H1 ⟨S1, R1⟩ ⟨s1, ds, zs, q1, q2, q3, q4, hP⟩ => ?_⟩
    subst q3
    have rd := R1.topV
    cases rd with
    | lst sq rz =>
      obtain ⟨p2, xs2, ha2, hx2, rs2, kk⟩ := R1.pop.addr q1 q2
      rw [ha] at ha2; cases ha2
      exact ⟨p, _, xs2, _, rfl, rfl, hx2, R1.sub _ _ sq, by rw [← rs2.length, ← rz.length]; exact q4, k _ _ .non _ ⟨S1, (kk _ _ (rs2.append rz)).pushV .non⟩ hP⟩
theorem me_join {r : V → List V → Hp → VK → Prop} (hr : r = fun x xs H Q => ∃ a p, ∃ ys : List Str, x = .str a ∧ xs = [.ref p] ∧ (SqL C.K H p (ys.map V.str) ∨ SqT C.K H p (ys.map V.str)) ∧ (ys.map (·.length)).sum + ys.length * a.length ≤ 16777216 ∧ Q (.str (Txt.join a ys)) H)
    (h : ∀ ta tb, PE X a ta → PE X b tb → PE X ex (tM1 r ta tb)) (ha : PE X a (canE C pa)) (hb : PE X b (canP C q)) : PE X ex (canE C (pJoin pa q)) :=
  (h _ _ ha hb).up fun σ H Q ⟨ts, vs, e, P, R, h, k⟩ => useF R h fun x e1 v H1 R1 ⟨s, ex, h1⟩ => by
    subst ex
    obtain ⟨S1, R1⟩ := R1
    have t := R1.topV
    cases t
    refine ⟨⟨s, rfl⟩, useP ⟨S1, R1.pop⟩ h1 fun S y e2 w H2 R2 ry ⟨ys, hy, hz, hP⟩ => ?_⟩
    rw [hr]
    rcases hy with hy | hy
    · subst hy
      obtain ⟨p, xs, rfl, hx, rs⟩ := ry.lst R2.sub
      have e3 := rs.strs; subst e3
      exact ⟨s, p, ys, rfl, rfl, .inl (SqL.of hx), hz, k _ e2 _ H2 ⟨S, R2.pushV (.str _)⟩ hP⟩
    · subst hy
      obtain ⟨p, xs, rfl, hx, _, rs⟩ := ry.tup R2.sub
      have e3 := rs.strs; subst e3
      exact ⟨s, p, ys, rfl, rfl, .inr hx, hz, k _ e2 _ H2 ⟨S, R2.pushV (.str _)⟩ hP⟩
theorem me_split {r : V → List V → Hp → VK → Prop} (hr : r = fun x xs H Q => ∃ a b, x = .str a ∧ xs = [.str b] ∧ (b.length == 0) = false ∧ a.length + 2 ≤ sizeLine ∧ rNewStrs (Txt.split a b) H Q)
    (h : ∀ ta tb, PE X a ta → PE X b tb → PE X ex (tM1 r ta tb)) (ha : PE X a (canE C pa)) (hb : PE X b (canE C pb)) : PE X ex (canE C (pSplit pa pb)) :=
  (h _ _ ha hb).up fun σ H Q ⟨ts, vs, e, P, R, h, k⟩ => useF R h fun x e1 v H1 R1 ⟨s, ex, h1⟩ => by
    subst ex
    obtain ⟨S1, R1⟩ := R1
    have t := R1.topV
    cases t
    refine ⟨⟨s, rfl⟩, useF ⟨S1, R1.pop⟩ h1 fun y e2 w H2 ⟨S, R2⟩ ⟨b, ey, hb, hz, hP⟩ => ?_⟩
    subst ey
    have t := R2.topV
    cases t
    rw [hr]
    exact ⟨s, b, rfl, rfl, hb, hz, fun p hp => k _ e2 _ _ ⟨_, R2.pop.pushL hp (RpL.of_strs _)⟩ hP⟩
theorem me_revL {t : TE → TE} (ht : t = fun te σ H Q => te σ H fun x H1 => ∃ a xs, x = .ref a ∧ SqL C.K H1 a xs ∧ ∀ p, H1 p = none → Q (.ref p) (upd H1 p (.lst xs.reverse))) (h : ∀ ta, PE X a ta → PE X ex (t ta)) (ha : PE X a (canP C q)) : PE X ex (canE C (pRevL q)) :=
  (h _ ha).up fun σ H Q ⟨ts, vs, e, P, R, h, k⟩ => by
    rw [ht]
    refine useP R h fun S y e2 w H2 R2 ry ⟨ds, ey, hP⟩ => ?_
    subst ey
    obtain ⟨p, xs, rfl, hx, rs⟩ := ry.lst R2.sub
    have rr : RpL C.K C.mg S ds.reverse xs.reverse := by
      have : ∀ {ds : List D} {xs : List V}, RpL C.K C.mg S ds xs → RpL C.K C.mg S ds.reverse xs.reverse := by
        intro ds
        induction ds with
        | nil => intro xs r; cases r; exact .nil
        | cons d ds ih =>
          intro xs r
          cases r with
          | cons r t =>
            rw [List.reverse_cons, List.reverse_cons]
            exact (ih t).append (.cons r .nil)
      exact this rs
    exact ⟨p, xs, rfl, SqL.of hx, fun p2 hp2 => k _ e2 _ _ ⟨_, R2.pushL hp2 rr⟩ hP⟩
theorem wk_step {i c : Int} {n : Nat} : Wk C (Itc i c n) (stepD i c n) [] [] where
  len := rfl
  go := fun k R hk => by show k < n; simpa [stepD] using hk
  stop := fun R => by show n ≤ _; simp [stepD]
  yld := fun k x H' d R hy hd => by
    obtain ⟨e, h2⟩ := hy
    subst e; subst h2
    unfold stepD at hd
    rw [List.getElem?_map] at hd
    by_cases hk : k < n
    · rw [List.getElem?_range hk] at hd
      cases hd
      exact .same (.int _)
    · rw [List.getElem?_eq_none (by simpa using hk)] at hd; cases hd
theorem mi_range3 {tg : Expr} (h : ∀ ta, PA X [a, b, c] ta → PI X tg ex (iRng3 ta)) (n : notStar a = true) (n2 : notStar b = true) (n3 : notStar c = true) (ha : PE X a (canE C pa)) (hb : PE X b (canE C pb)) (hc : PE X c (canE C pc)) : PI X tg ex (canI C (iRange3 pa pb pc)) :=
  (h _ (pa_cons ha (pa_cons hb (pa_cons hc pa_nil (star_cons n3)) (star_cons n2)) (star_cons n))).up fun σ H R ⟨ts, vs, e, P, R0, h, k⟩ =>
    useF R0 h fun d e1 v H1 R1 h1 => useF R1 h1 fun d2 e2 v2 H2 R2 h2 => useF R2 h2 fun d3 e3 v3 H3 ⟨S, R3⟩ ⟨i, j, k', m, x1, x2, x3, hr, hP⟩ => by
      subst x1; subst x2; subst x3
      have r := R3.topV
      cases r
      have r := R3.pop.topV
      cases r
      have r := R3.pop.pop.topV
      cases r
      exact ⟨i, j, k', m, rfl, hr, k _ _ [] [] e3 H3 ⟨S, R3.pop.pop.pop⟩ wk_step hP⟩
/-- what is told of a dict of the module -/
structure KdOk (K : PySem.W.Frag) (w : World) (mg : Str → Option Value) (x : Str) (kvs : List (Str × D)) : Prop where
  at_ : ∃ a es n, mg x = some (.ref a) ∧ KDict K w a es n ∧ ∀ z, ∃ r, PySem.W.nsIn K a z = some r ∧ ((kvs.lookup z = none ∧ r = none) ∨ ∃ d u v, kvs.lookup z = some d ∧ r = some u ∧ RelV v u ∧ ∀ S, Rp K mg S d v)
theorem inK_fin {neg : Bool} {ad : Addr} {kvs : List (Str × D)} (look : ∀ z, ∃ r, PySem.W.nsIn X.K ad z = some r ∧ ((kvs.lookup z = none ∧ r = none) ∨ ∃ d u v, kvs.lookup z = some d ∧ r = some u ∧ RelV v u ∧ ∀ S, Rp X.K X.mg S d v)) :
    ∀ σ H Q, canE C (pInK neg kvs pa) σ H Q → canE C pa σ H (fun x1 H1 => ∃ (z : Str) (r : Option Value), x1 = .str z ∧ V.ref ad = .ref ad ∧ PySem.W.nsIn X.K ad z = some r ∧ Q (.bl (if neg = true then !r.isSome else r.isSome)) H1) := by
  intro σ H Q ⟨ts, vs, e, P, R, h, k⟩
  refine useF R h fun d e1 v H1 ⟨S, R1⟩ ⟨z, ez, hP⟩ => ?_
  subst ez
  have t := R1.topV
  cases t
  obtain ⟨r, hr, hh⟩ := look z
  refine ⟨z, r, rfl, rfl, hr, ?_⟩
  have e2 : r.isSome = (kvs.lookup z).isSome := by
    rcases hh with ⟨h1, h2⟩ | ⟨d, u, v, h1, h2, _⟩
    · rw [h1, h2]; rfl
    · rw [h1, h2]; rfl
  rw [e2]
  exact k _ e1 _ H1 ⟨S, R1.pop.pushV (.bl _)⟩ hP
def inOp : Bool → CmpOp
  | false => .In
  | true => .NotIn
theorem inK_op {neg : Bool} {d : Addr} {es : Array DictEntry} {n : Nat} (kd : KDict X.K X.w d es n) : OpR X (compareOp (inOp neg)) (fun x y H Q => ∃ (z : Str) (r : Option Value), x = .str z ∧ y = .ref d ∧ PySem.W.nsIn X.K d z = some r ∧ Q (.bl (if neg = true then !r.isSome else r.isSome)) H) := by
  cases neg with
  | false => exact op_in_kd kd
  | true => exact op_notIn_kd kd
theorem me_inK {neg : Bool} {x : Str} {p1 : Pos} {kvs : List (Str × D)} (D : KdOk X.K X.w X.mg x kvs) (hg : Gl X x) (hdb : (x == ("__debug__" : Str)) = false) (hm : behindInMarks (inOp neg) (.Name x p1) = false)
    (ha : PE X a (canE C pa)) : PE X (.Compare a [inOp neg] [.Name x p1] pos) (canE C (pInK neg kvs pa)) := by
  obtain ⟨ad, es, n, hx, kd, look⟩ := D.at_
  exact (pe_cmpR (inK_op kd) ha (pe_glob (v := .ref ad) hg hx rfl hdb) hm).up fun σ H Q h => inK_fin look σ H Q h
theorem mt_inK {neg : Bool} {x : Str} {p1 : Pos} {kvs : List (Str × D)} (D : KdOk X.K X.w X.mg x kvs) (hg : Gl X x) (hdb : (x == ("__debug__" : Str)) = false) (hm : behindInMarks (inOp neg) (.Name x p1) = false)
    (ha : PE X a (canE C pa)) : PT X (.Compare a [inOp neg] [.Name x p1] pos) (canT C (pB (pInK neg kvs pa))) := by
  obtain ⟨ad, es, n, hx, kd, look⟩ := D.at_
  exact (pt_cmpR (inK_op kd) ha (pe_glob (v := .ref ad) hg hx rfl hdb) hm).up fun σ H Q ⟨ts, vs, e1, P, R, w, k⟩ => inK_fin look σ H (fun x H' => ∃ k, x = .bl k ∧ Q k H') (useB R w fun b e' H' R' h' => ⟨b, rfl, k b e' H' R' h'⟩)
theorem me_ixK {x : Str} {p1 : Pos} {kvs : List (Str × D)} (hK : X.K = C.K) (hM : X.mg = C.mg) (D : KdOk X.K X.w X.mg x kvs) (hg : Gl X x) (hdb : (x == ("__debug__" : Str)) = false) (hp : PlainIx b) (hb : PE X b (canP C q)) : PE X (.Subscript (.Name x p1) b pos) (canE C (pIxK kvs q)) := by
  obtain ⟨ad, es, n, hx, kd, look⟩ := D.at_
  have ha : PE X (.Name x p1) (tC (.ref ad)) := pe_glob hg hx rfl hdb
  exact (pe_ix (ix_kdict) ha hb hp).up fun σ H Q ⟨ts, vs, e, P, R, h, k⟩ => by
    refine useP R h fun S d e1 v H1 R1 ra ⟨z, u, ez, hl, hP⟩ => ?_
    subst ez
    have e2 := ra.str; subst e2
    obtain ⟨r, hr, hh⟩ := look z
    rcases hh with ⟨h1, h2⟩ | ⟨d, u', v', h1, h2, h3, h4⟩
    · rw [hl] at h1; cases h1
    · rw [hl] at h1; cases h1
      subst h2
      exact ⟨ad, z, v', rfl, rfl, ⟨es, n, u', kd.at_, kd.lit, hr, h3⟩, k _ e1 v' H1 ⟨S, R1.pushV (by rw [← hK, ← hM]; exact h4 S)⟩ hP⟩
end
end PL
set_option Elab.async false
set_option linter.all false
set_option maxRecDepth 100000
set_option maxHeartbeats 4000000
/-! PL11: the readings of the language's words, by the syntax; they are sound. -/
namespace PL
open PySem PySem.Spec PyProof.Rows L2 PLX

/-- what a global name is: a def of the program; a constant -/
inductive GE where
  | fn (np nloc : Nat) (ref : Bool) (p : XC → pS)
  | con (d : D)
  | kd (kvs : List (Str × D))
/-- what is known of a block of text -/
structure SC where
  N : List Str
  sc : Scope
  G : List (Str × GE)
  errs : List (Str × List Str)
  exm : List ((Str × Str) × Bool)
  flds : List Str
  free : List Str
  lev : Nat
  calm : Bool
  own : Option (List Nat)
def xno : XC := fun _ _ => False

/-! ### looks at the text -/
def idxAt (x : Str) : List Str → Nat → Option Nat
  | [], _ => none
  | y :: r, i => if x == y then some i else idxAt x r (i + 1)
def isVis (sc : Scope) (x : Str) : Bool := match sc.names.lookup x with
  | some .local => true
  | some .cell => true
  | some .free => true
  | _ => false
def isLocK (sc : Scope) (x : Str) : Bool := match sc.names.lookup x with
  | some .local => true
  | _ => false
def isLoc (sc : Scope) (x : Str) : Bool := match sc.names.lookup x with
  | some .local => true
  | some .cell => true
  | _ => false
def isGlob (sc : Scope) (x : Str) : Bool := match sc.names.lookup x with
  | some .globalImplicit => true
  | _ => false
def dbg (x : Str) : Bool := !(x == ("__debug__" : Str)) && !(x == ("__classdict__" : Str))
/-- the slot of a name that is read -/
def slotR (S : SC) (x : Str) : Option Nat := match isVis S.sc x && dbg x with
  | true => idxAt x S.N 0
  | false => none
/-- .. that is stored -/
def slotW (S : SC) (x : Str) : Option Nat := match S.own with
  | none => (match isLoc S.sc x with
    | true => idxAt x S.N 0
    | false => none)
  | some own => (match isLocK S.sc x with
    | true => (match idxAt x S.N 0 with
      | some i => (match own.contains i with
        | true => some i
        | false => none)
      | none => none)
    | false => none)
def plainIx : Expr → Bool
  | .Slice _ _ _ _ => false
  | .Tuple _ _ _ => false
  | _ => true
def plainT : Expr → Bool
  | .UnaryOp .Not _ _ => false
  | .BoolOp _ _ _ => false
  | .IfExp _ _ _ _ => false
  | .Compare _ _ _ _ => false
  | _ => true
def noSet : Expr → Bool
  | .Set _ _ _ => false
  | _ => true
def noComp : Expr → Bool
  | .ListComp _ _ _ _ => false
  | .SetComp _ _ _ _ => false
  | .DictComp _ _ _ _ _ => false
  | _ => true
def isNm : Expr → Option Str
  | .Name x _ => some x
  | _ => none
def isNone : Expr → Bool
  | .Constant .none _ _ => true
  | _ => false
def bltTab : List (Str × Blt) := [("len", .len), ("abs", .abs), ("int", .int_), ("bool", .bool_), ("str", .str_), ("min", .min_), ("max", .max_), ("sum", .sum_), ("all", .all_), ("any", .any_), ("list", .list_), ("tuple", .tuple_), ("repr", .repr_)]
def bltOf (f : Str) : Option Blt := bltTab.lookup f
def tyTab : List (Str × String) := [("int", "int"), ("bool", "bool"), ("str", "str"), ("list", "list"), ("tuple", "tuple")]
def tyOf (f : Str) : Option String := tyTab.lookup f

/-- a dict of the module, by its name -/
def kdOf (S : SC) : Expr → Option (Str × List (Str × D))
  | .Name x _ => (match isGlob S.sc x && dbg x with
    | true => (match S.G.lookup x with
      | some (.kd kvs) => some (x, kvs)
      | _ => none)
    | false => none)
  | _ => none
def isMinus1 : Expr → Bool
  | .UnaryOp .USub (.Constant (.int i) _ _) _ => decide (i = 1)
  | _ => false
def isIn : CmpOp → Option Bool
  | .In => some false
  | .NotIn => some true
  | _ => none
structure Sem where
  E : SC → XC → Expr → pE
  V : SC → XC → Expr → pV
  T : SC → XC → Expr → pT
  I : SC → XC → Expr → Expr → pI
  G : SC → XC → Expr → pG
  S : SC → XC → Stmt → pS

def bV : pV := fun _ _ => False
def bT : pT := fun _ _ => False
def bI : pI := fun _ _ => False
def bG : pG := fun _ _ _ => False
def bS : pS := fun _ _ => False
def bA : pA := fun _ _ => False

section
variable (r : Sem) (S : SC) (xc : XC)
/-- arguments that may be kept -/
def stA : List Expr → pA
  | [] => pNil
  | e :: es => match notStar e with
    | true => pCons (r.E S xc e) (stA es)
    | false => bA
/-- .. the last only looked at -/
def stL : List Expr → pA
  | [] => pNil
  | [e] => (match notStar e with
    | true => pLast (r.V S xc e)
    | false => bA)
  | e :: es => match notStar e with
    | true => pCons (r.E S xc e) (stL es)
    | false => bA
def stB : List Stmt → pS
  | [] => sNext
  | [s] => r.S S xc s
  | s :: ss => sSeq (r.S S xc s) (stB ss)
def stAndV : List Expr → pE
  | [] => pBad
  | [e] => r.E S xc e
  | e :: es => pAndV (r.E S xc e) (stAndV es)
def stOrV : List Expr → pE
  | [] => pBad
  | [e] => r.E S xc e
  | e :: es => pOrV (r.E S xc e) (stOrV es)
def stAndT : List Expr → pT
  | [] => bT
  | [e] => r.T S xc e
  | e :: es => pAndT (r.T S xc e) (stAndT es)
def stOrT : List Expr → pT
  | [] => bT
  | [e] => r.T S xc e
  | e :: es => pOrT (r.T S xc e) (stOrT es)
def stGs : List Expr → pGs
  | [] => gsNil
  | e :: es => match notStar e with
    | true => gsCons (r.G S xc e) (stGs es)
    | false => fun _ _ _ => False
def stO : Option Expr → Option pE
  | none => none
  | some e => some (r.E S xc e)
/-- a comprehension's own names and their slots -/
def ownOf (N : List Str) : List (Str × NameKind) → List (Str × Nat)
  | [] => []
  | (x, k) :: rest => match k with
    | .local => (match idxAt x N 0 with
      | some i => (x, i) :: ownOf N rest
      | none => ownOf N rest)
    | _ => ownOf N rest
def blkS (sc : Scope) (own : List (Str × Nat)) : SC := { S with sc := relS sc S.sc, own := some (own.map (·.2)) }
def stLc (elt tg iter : Expr) (ifs : List Expr) (sc : Scope) : pE := match S.calm && blkC S.N S.sc sc (ownOf S.N sc.names) && noSet iter with
  | false => pBad
  | true => pLc (r.I S xc tg iter) (r.G (blkS S sc (ownOf S.N sc.names)) xno tg) (match ifs with
    | [] => pYes
    | [c] => r.T (blkS S sc (ownOf S.N sc.names)) xno c
    | _ => bT) (r.E (blkS S sc (ownOf S.N sc.names)) xno elt) ((ownOf S.N sc.names).map (·.2))
def stCmp (a : Expr) (op : CmpOp) (b : Expr) : pE := match op with
  | .Is => if isNone b then pIsN false (r.V S xc a) else pBad
  | .IsNot => if isNone b then pIsN true (r.V S xc a) else pBad
  | op => match behindInMarks op b with
    | false => (match isIn op, kdOf S b with
      | some neg, some (_, kvs) => pInK neg kvs (r.E S xc a)
      | _, _ => pOp (cmpB op) (r.E S xc a) (r.V S xc b))
    | true => pBad
/-- a call of a name -/
def stCall (f : Str) (es : List Expr) : pE := match isGlob S.sc f && dbg f && es.all notStar with
  | false => pBad
  | true => match S.G.lookup f with
    | some (.fn np nloc ref p) => (match S.calm with
      | false => pBad
      | true => (match ref with
        | false => (match es with
          | [] => pBad
          | es => pCall (semFn nloc np false p) xc (stA r S xc es))
        | true => (match es with
          | .Name x _ :: es => (match slotR S x with
            | some i => pCallR (semFn nloc np true p) xc i (stA r S xc es)
            | none => pBad)
          | _ => pBad)))
    | some (.con _) => pBad
    | some (.kd _) => pBad
    | none => match S.free.contains f && !(f == ("__name__" : Str)) with
      | false => pBad
      | true => match f == ("isinstance" : Str) with
        | true => (match es with
          | [a, .Name t _] => (match isGlob S.sc t && dbg t && S.free.contains t && !(t == ("__name__" : Str)) with
            | true => (match tyOf t with
              | some T => pIsi T (r.V S xc a)
              | none => pBad)
            | false => (match S.calm with
              | true => pBad
              | false => (match isGlob S.sc t && dbg t with
                | true => (match a with
                  | .Name y _ => (match slotR S y with
                    | some i => pIsX i fun c => S.exm.lookup (c, t)
                    | none => pBad)
                  | _ => pBad)
                | false => pBad)))
          | _ => pBad)
        | false => (match S.calm with
          | false => pBad
          | true => (match bltOf f with
            | some b => (match es with
              | [] => pBad
              | es => pBlt b (stL r S xc es))
            | none => pBad))
/-- methods of texts -/
def stTxt (o : Expr) (m : Str) (e : Expr) : pE := if m == ("join" : Str) then pJoin (r.E S xc o) (r.V S xc e) else if m == ("split" : Str) then pSplit (r.E S xc o) (r.E S xc e) else pBad
def stMeth (o : Expr) (m : Str) (apos pos : Pos) (es : List Expr) : pE := match o with
  | .Constant (.str z) j p => (match apos.endLine == pos.line, es with
    | true, [e] => (match notStar e with
      | true => stTxt r S xc (.Constant (.str z) j p) m e
      | false => pBad)
    | _, _ => pBad)
  | .Name x px => (match slotR S x with
    | none => pBad
    | some i => (match apos.endLine == pos.line with
      | false => pBad
      | true => (match es with
        | [] => if m == ("pop" : Str) then pPop i else pBad
        | [e] => (match notStar e with
          | false => pBad
          | true => if m == ("append" : Str) then pAppend i (r.E S xc e) else if m == ("pop" : Str) then pPopAt i (r.E S xc e) else if m == ("extend" : Str) then pExtend i (r.E S xc e) else stTxt r S xc (.Name x px) m e)
        | _ => pBad)))
  | _ => pBad
def stE : Expr → pE
  | .Constant c _ _ => (match c with
    | .int i => pC (.int i)
    | .str x => pC (.str x)
    | .bool b => pC (.bl b)
    | .none => pC .non
    | _ => pBad)
  | .Name x _ => (match slotR S x with
    | some i => pVar i
    | none => (match isGlob S.sc x && dbg x with
      | false => pBad
      | true => (match S.G.lookup x with
        | some (.con d) => pC d
        | _ => pBad)))
  | .BinOp a op b _ => pOp (opB op) (r.E S xc a) (r.V S xc b)
  | .UnaryOp op a _ => (match op with
    | .Not => pNotV (r.E S xc a)
    | op => pUn (unB op) (r.E S xc a))
  | .BoolOp op es _ => (match op with
    | .And => stAndV r S xc es
    | .Or => stOrV r S xc es)
  | .IfExp c a b _ => pIf (r.T S xc c) (r.E S xc a) (r.E S xc b)
  | .Compare a ops bs _ => (match ops, bs with
    | [op], [b] => stCmp r S xc a op b
    | [op, op'], [b, c] => (match lastMarks [op, op'] [b, c] with
      | false => pChain (cmpB op) (cmpB op') (r.E S xc a) (r.E S xc b) (r.V S xc c)
      | true => pBad)
    | _, _ => pBad)
  | .Tuple es _ _ => pTup (stA r S xc es)
  | .List es _ => pLst (stA r S xc es)
  | .Subscript o i _ => (match i with
    | .Slice lo hi st _ => (match st with
      | none => (match (isNm o).bind (slotR S) with
        | some k => pSlN k (stO r S xc lo) (stO r S xc hi)
        | none => pSl (r.E S xc o) (stO r S xc lo) (stO r S xc hi))
      | some s => (match lo, hi, isMinus1 s with
        | none, none, true => pRevL (r.V S xc o)
        | _, _, _ => pBad))
    | i => (match plainIx i with
      | false => pBad
      | true => (match (isNm o).bind (slotR S) with
        | some k => pIxN k (r.V S xc i)
        | none => (match kdOf S o with
          | some (_, kvs) => pIxK kvs (r.V S xc i)
          | none => pOp itemB (r.E S xc o) (r.V S xc i)))))
  | .ListComp elt gs sc _ => (match gs with
    | [⟨tg, iter, ifs, 0⟩] => stLc r S xc elt tg iter ifs sc
    | _ => pBad)
  | .Call f es kws pos => (match kws with
    | [] => (match f with
      | .Name f _ => stCall r S xc f es
      | .Attribute o m apos => stMeth r S xc o m apos pos es
      | _ => pBad)
    | _ => pBad)
  | .Attribute o f _ => (match S.calm with
    | true => pBad
    | false => (match (isNm o).bind (slotR S) with
      | some i => (match S.flds.contains f with
        | true => pXf i f
        | false => pBad)
      | none => pBad))
  | _ => pBad
def stV (e : Expr) : pV := match (isNm e).bind (slotR S) with
  | some i => pPk i
  | none => pF (r.E S xc e)
def stT : Expr → pT
  | .UnaryOp op a p => (match op with
    | .Not => pNotT (r.T S xc a)
    | op => pB (r.E S xc (.UnaryOp op a p)))
  | .BoolOp op es _ => (match op with
    | .And => stAndT r S xc es
    | .Or => stOrT r S xc es)
  | .IfExp _ _ _ _ => bT
  | .Compare a ops bs _ => (match ops, bs with
    | [op], [b] => pB (stCmp r S xc a op b)
    | [op, op'], [b, c] => (match lastMarks [op, op'] [b, c] with
      | false => pB (pChain (cmpB op) (cmpB op') (r.E S xc a) (r.E S xc b) (r.V S xc c))
      | true => bT)
    | _, _ => bT)
  | e => pB (r.E S xc e)
def stI (tg : Expr) : Expr → pI
  | .Call (.Name f _) es [] _ => (match S.calm && isGlob S.sc f && dbg f && S.free.contains f && !(f == ("__name__" : Str)) && (f == ("range" : Str)) with
    | true => (match es with
      | [a] => (match notStar a with
        | true => iRange1 (r.E S xc a)
        | false => bI)
      | [a, b] => (match notStar a && notStar b with
        | true => iRange2 (r.E S xc a) (r.E S xc b)
        | false => bI)
      | [a, b, c] => (match notStar a && (notStar b && notStar c) with
        | true => iRange3 (r.E S xc a) (r.E S xc b) (r.E S xc c)
        | false => bI)
      | _ => bI)
    | false => (match S.calm && isGlob S.sc f && dbg f && S.free.contains f && !(f == ("__name__" : Str)) && (f == ("enumerate" : Str)) with
      | true => (match tg with
        | .Tuple _ _ _ => (match es with
          | [a] => (match notStar a with
            | true => iEnumP (r.E S xc a)
            | false => bI)
          | _ => bI)
        | _ => bI)
      | false => iVal (stCall r S xc f es)))
  | e => iVal (r.E S xc e)
def stG : Expr → pG
  | .Name x _ => (match slotW S x with
    | some i => gP i
    | none => bG)
  | .Tuple es _ _ => (match S.calm && es.all notStar with
    | true => gTL es.length (stGs r S xc es)
    | false => bG)
  | .Subscript o i _ => (match (isNm o).bind (slotR S), plainIx i with
    | some k, true => gIx k (r.E S xc i)
    | _, _ => bG)
  | _ => bG
/-- the targets are no pair of names whose values are a pair -/
def noSwap : Expr → Expr → Bool
  | .Tuple _ _ _, .Tuple _ _ _ => false
  | .List _ _, .Tuple _ _ _ => false
  | _, _ => true
def kindFn (sc : Scope) : Bool := match sc.kind with
  | .function => true
  | _ => false
def pairW (tg e : Expr) : Option (Str × Str × Expr × Expr) := match tg, e with
  | .Tuple [.Name x px, .Name y py] _ _, .Tuple [a, b] _ _ => (match (px.line == py.line) && !(x == y) && notStar a && notStar b && !([a, b].all (foldedForSure 8)) && !([a, b].all (constantsAlone 8)) with
    | true => some (x, y, a, b)
    | false => none)
  | _, _ => none
def stS : Stmt → pS
  | .Pass _ => sNext
  | .Break _ => sBreak
  | .Continue _ => sCont
  | .Expr e _ => (match e with
    | .Constant (.str _) _ _ => sNext
    | e => (match noComp e with
      | true => sDrop (r.E S xc e)
      | false => bS))
  | .Return o _ => (match o with
    | none => sRet (pC .non)
    | some e => (match (isNm e).bind (slotR S) with
      | some i => sRet (pMove i)
      | none => sRet (r.E S xc e)))
  | .If c a b _ => sIf (r.T S xc c) (stB r S xc a) (stB r S xc b)
  | .Assign tgs e _ => (match S.calm, S.own, tgs with
    | true, none, [tg] => (match tg with
      | .Name x _ => (match slotW S x with
        | some i => (match e with
          | .ListComp elt [⟨tg, iter, ifs, 0⟩] sc _ => sAsg (stLc r S xc elt tg iter ifs sc) (gP i)
          | e => (match noComp e with
            | true => sAsg (r.E S xc e) (gP i)
            | false => bS))
        | none => bS)
      | tg => (match noComp e && notStar tg with
        | false => bS
        | true => (match noSwap tg e with
          | true => sAsg (r.E S xc e) (r.G S xc tg)
          | false => (match pairW tg e with
            | some (x, y, a, b) => (match kindFn S.sc && isLocK S.sc x && isLocK S.sc y, slotW S x, slotW S y with
              | true, some i, some j => (match i == j with
                | true => bS
                | false => sPar i j (stA r S xc [a, b]))
              | _, _, _ => bS)
            | none => bS))))
    | _, _, _ => bS)
  | .AugAssign tg op e _ => (match tg, op with
    | .Subscript o i _, .Add => (match (isNm o).bind (slotR S), plainIx i with
      | some k, true => sAugIx k (r.E S xc i) (r.E S xc e)
      | _, _ => bS)
    | _, _ => bS)
  | .For tg iter body els _ => (match S.calm, S.own, els, noSet iter with
    | true, none, [], true => pFor (r.I S xc tg iter) (r.G S xc tg) (stB r S xc body)
    | _, _, _, _ => bS)
  | .While c body els _ => (match els with
    | [] => pWhile (r.T S xc c) (stB r S xc body)
    | _ => bS)
  | .Raise e c _ => (match S.calm, S.own, e, c with
    | true, none, some (.Call (.Name f _) es [] _), none => (match isGlob S.sc f && dbg f && es.all notStar, S.errs.lookup f with
      | true, some (x :: fs) => (match es with
        | [] => bS
        | es => sRaise f (x :: fs) (stA r S xc es) xc)
      | _, _ => bS)
    | _, _, _, _ => bS)
  | .Try body hds els fin _ => (match S.calm, S.own, hds, els, fin with
    | true, none, [.ExceptHandler (some (.Name c _)) (some n) (s0 :: suite) _], [], [] => (match isGlob S.sc c && dbg c && isLocK S.sc n && (S.exm.lookup (c, c)).isSome, slotW S n with
      | true, some i => sTryAs i (fun y => S.exm.lookup (y, c)) (fun xc' => stB r S xc' body) (stB r { S with calm := false } xno (s0 :: suite)) xc
      | _, _ => bS)
    | _, _, _, _, _ => bS)
  | _ => bS
end
def Sem.bad : Sem := ⟨fun _ _ _ => pBad, fun _ _ _ => bV, fun _ _ _ => bT, fun _ _ _ _ => bI, fun _ _ _ => bG, fun _ _ _ => bS⟩
def Sem.step (r : Sem) : Sem := ⟨stE r, stV r, stT r, stI r, stG r, stS r⟩
def sem : Nat → Sem
  | 0 => .bad
  | n + 1 => (sem n).step
end PL
set_option Elab.async false
set_option linter.all false
set_option maxRecDepth 100000
set_option maxHeartbeats 4000000
/-! PL12: the readings of expressions are sound. -/
namespace PL
open PySem PySem.Spec PyProof.Rows L2 PLX

/-- what is told of the module -/
structure Glob (S : SC) (P : Program) (w : World) (K : PySem.W.Frag) (mg : Str → Option Value) (base : Heap) : Prop where
  fn : ∀ x np nloc ref p, S.G.lookup x = some (.fn np nloc ref p) → ∃ f fd ps, mg x = some (.ref f) ∧ PySem.W.keepIn K (.ref f) = true ∧ Binds K fd ps [] ∧ FnG P w K mg base (L2.CX P w) S.lev f fd ps (l2sp K mg (semFn nloc np ref p))
  con : ∀ x d, S.G.lookup x = some (.con d) → ∃ u v, mg x = some u ∧ RelV v u ∧ ∀ S, Rp K mg S d v
  kd : ∀ x kvs, S.G.lookup x = some (.kd kvs) → KdOk K w mg x kvs
  err : ∀ c f fs, S.errs.lookup c = some (f :: fs) → mg "super" = none ∧ ∃ (C fI : Addr) (qual : Str) (params : Arguments) (scope : Scope) (text : Str) (kk : Nat) (p0 p1 p2 p3 p4 p5 : Pos) (rows : List Stmt), mg c = some (.ref C) ∧ (p2.endLine == p3.line) = true ∧
    OwnC P K C fI qual params (supRow text kk p0 p1 p2 p3 p4 p5 :: rows) scope (f :: fs) ∧ OwnS P params scope (f :: fs) ∧ FldRows (f :: fs) rows ∧ (f :: fs).length ≤ 900
  exm : ∀ y c b, S.exm.lookup (y, c) = some b → ∃ Cy Cc, mg y = some (.ref Cy) ∧ mg c = some (.ref Cc) ∧ PySem.W.exmOne K (.ref Cy) (.ref Cc) = some b ∧ PySem.W.kitOne K (.ref Cy) (.ref Cc) = some b ∧ XfC K Cy ∧ ExcC K Cy ∧ ∀ f ∈ S.flds, PySem.W.findIn K (.ref Cy) f = some none
  free : ∀ x ∈ S.free, mg x = none
structure Good (S : SC) (X : Cx) (C : Cfg) (xc : XC) : Prop where
  gl : Glob S X.prog X.w X.K X.mg X.base
  K : X.K = C.K
  mg : X.mg = C.mg
  N : X.N = S.N
  nd : S.N.Nodup
  sc : X.env.scope = S.sc
  gd : X.A.guards = some []
  calm : S.calm = true → X.calm = true ∧ Room S.lev X.A
  takes : Takes X (canX C xc)
  po : PassesOwn (model X.prog X.w) X.A X.env X.xe
  hu : X.A.units + 64 < cLine
  st : S.own = none → S.calm = true → X.stack = X.env :: X.outer ∧ X.env.frame = some X.env.locals
  fn : S.own = none → ∀ x, X.fn x = true
  exn : S.calm = true → C.ex = none
  sui : S.calm = false → ∃ a oe X0 pn cl dd y c b, X = Cx.suite X0 a ((a, oe) :: pn) ∧ C.ex = some (a, .ref cl, some dd) ∧ Zc (.ref cl) (some dd) oe ∧ (∃ vs, oe.data = .fields vs) ∧ C.mg y = some (.ref cl) ∧ S.exm.lookup (y, c) = some b

theorem idxAt_ok {x : Str} : ∀ {l : List Str} {i j : Nat}, idxAt x l i = some j → ∃ k, j = i + k ∧ l[k]? = some x
  | [], _, _, h => by cases h
  | y :: r, i, j, h => by
    unfold idxAt at h
    split at h
    · rename_i e
      cases h
      exact ⟨0, rfl, by rw [beq_iff_eq.mp e]; rfl⟩
    · obtain ⟨k, h1, h2⟩ := idxAt_ok h
      exact ⟨k + 1, by omega, by simpa using h2⟩
theorem idx_ok {x : Str} {l : List Str} {j : Nat} (h : idxAt x l 0 = some j) : l[j]? = some x := by
  obtain ⟨k, h1, h2⟩ := idxAt_ok h
  rw [Nat.zero_add] at h1
  subst h1
  exact h2
theorem dbg_ok {x : Str} (h : dbg x = true) : (x == ("__debug__" : Str)) = false ∧ (x == ("__classdict__" : Str)) = false := by
  unfold dbg at h
  simpa using h
section
variable {S : SC} {X : Cx} {C : Cfg} {xc : XC} {x : Str} {i : Nat} {pos : Pos} {e : Expr}
theorem Good.vis (g : Good S X C xc) (h : isVis S.sc x = true) : Vis X.env.scope x := by
  unfold isVis at h
  unfold Vis
  rw [g.sc]
  split at h
  · exact .inl (by assumption)
  · exact .inr (.inl (by assumption))
  · exact .inr (.inr (by assumption))
  · cases h
theorem Good.gl_of (g : Good S X C xc) (h : isGlob S.sc x = true) : Gl X x := by
  unfold isGlob at h
  show X.env.scope.names.lookup x = _
  rw [g.sc]
  split at h
  · assumption
  · cases h
theorem Good.read (g : Good S X C xc) (h : slotR S x = some i) : PE X (.Name x pos) (tVar i) := by
  unfold slotR at h
  split at h
  · rename_i q
    rw [Bool.and_eq_true] at q
    obtain ⟨q1, q2⟩ := q
    exact pe_var (by rw [g.N]; exact idx_ok h) (g.vis q1) (dbg_ok q2).1 (dbg_ok q2).2
  · cases h
theorem Good.name (g : Good S X C xc) (h : (isNm e).bind (slotR S) = some i) : ∃ x p, e = .Name x p ∧ PE X e (tVar i) := by
  cases e with
  | Name x p => exact ⟨x, p, rfl, g.read h⟩
  | _ => cases h
theorem isIn_ok {op : CmpOp} {b : Bool} (h : isIn op = some b) : op = inOp b := by
  cases op <;> first | (cases h; rfl) | cases h
theorem Good.kdof {x : Str} {kvs : List (Str × D)} (g : Good S X C xc) (h : kdOf S e = some (x, kvs)) : ∃ p, e = .Name x p ∧ Gl X x ∧ (x == ("__debug__" : Str)) = false ∧ KdOk X.K X.w X.mg x kvs := by
  unfold kdOf at h
  split at h
  · split at h
    · rename_i q
      rw [Bool.and_eq_true] at q
      split at h
      · rename_i hk
        cases h
        exact ⟨_, rfl, g.gl_of q.1, (dbg_ok q.2).1, g.gl.kd _ _ hk⟩
      · cases h
    · cases h
  · cases h
def rho (S : SC) : L2.St → L2.St → Prop := match S.own with
  | none => anySt
  | some own => fun σ τ => L2.wipe τ own = L2.wipe σ own
theorem rho_ok (S : SC) : RhoOk (rho S) := by
  unfold rho
  split
  · exact anySt_ok
  · exact wipe_ok _
theorem Good.write (g : Good S X C xc) (h : slotW S x = some i) : S.N[i]? = some x ∧ L2.Loc X.env.scope x ∧ (X.fn x = true ∨ X.env.scope.names.lookup x = some .local) ∧ ∀ σ v, rho S σ (σ.set i (some v)) := by
  unfold slotW at h
  split at h
  · rename_i ho
    split at h
    · rename_i q
      refine ⟨idx_ok h, ?_, .inl (g.fn ho x), fun σ v => ?_⟩
      · unfold isLoc at q
        unfold L2.Loc
        rw [g.sc]
        split at q
        · exact .inl (by assumption)
        · exact .inr (by assumption)
        · cases q
      · unfold rho; rw [ho]; exact trivial
    · cases h
  · rename_i own ho
    split at h
    · rename_i q
      split at h
      · rename_i j hj
        split at h
        · rename_i hc
          cases h
          have hl : X.env.scope.names.lookup x = some .local := by
            unfold isLocK at q
            rw [g.sc]
            split at q
            · assumption
            · cases q
          refine ⟨idx_ok hj, .inl hl, .inr hl, fun σ v => ?_⟩
          unfold rho
          rw [ho]
          exact wipe_set (by simpa using hc)
        · cases h
      · cases h
    · cases h
theorem PE.bad {t : pE} (h : ∀ e P, t e P → False) : PE X e (canE C t) := ⟨fun pins s σ H Q I ⟨ts, vs, e1, P, R, w, k⟩ => (h _ _ w).elim⟩
theorem pe_bad : PE X e (canE C pBad) := PE.bad fun _ _ h => h
theorem pp_bad : PE X e (canP C bV) := ⟨fun pins s σ H Q I ⟨ts, vs, e1, P, R, w, k⟩ => w.elim⟩
theorem pt_bad : PT X e (canT C bT) := ⟨fun pins s σ H Q I ⟨ts, vs, e1, P, R, w, k⟩ => w.elim⟩
theorem pi_bad {tg : Expr} : PI X tg e (canI C bI) := ⟨fun pins s σ H R I ⟨ts, vs, e1, P, R0, w, k⟩ => w.elim⟩
theorem pg_bad {ρ : L2.St → L2.St → Prop} : PG X e (canG C ρ bG) := ⟨fun pins s σ H v u Q I r ⟨sv, ts, vs, e1, P, R0, w, k⟩ => w.elim⟩
theorem ps_bad {st : Stmt} : PS X st (canS C bS) := ⟨fun pins s σ H D I ⟨ts, vs, e1, Q, R0, w, k⟩ => w.elim⟩
theorem pa_bad {es : List Expr} : PA X es (canK C bA) := ⟨fun pos pins s σ H Q I ⟨ts, vs, e1, P, R0, w, k⟩ => w.elim⟩
theorem pl_bad {es : List Expr} : PA X es (canL C bA) := ⟨fun pos pins s σ H Q I ⟨ts, vs, e1, P, R0, w, k⟩ => w.elim⟩
end
structure Sound (r : Sem) : Prop where
  E : ∀ {S X C xc e}, Good S X C xc → PE X e (canE C (r.E S xc e))
  V : ∀ {S X C xc e}, Good S X C xc → PE X e (canP C (r.V S xc e))
  T : ∀ {S X C xc e}, Good S X C xc → PT X e (canT C (r.T S xc e))
  I : ∀ {S X C xc tg e}, Good S X C xc → PI X tg e (canI C (r.I S xc tg e))
  G : ∀ {S X C xc e}, Good S X C xc → PG X e (canG C (rho S) (r.G S xc e))
  S : ∀ {S X C xc st}, Good S X C xc → PS X st (canS C (r.S S xc st))
theorem sound_bad : Sound .bad := ⟨fun _ => pe_bad, fun _ => pp_bad, fun _ => pt_bad, fun _ => pi_bad, fun _ => pg_bad, fun _ => ps_bad⟩

section
variable {r : Sem} {S : SC} {X : Cx} {C : Cfg} {xc : XC}
theorem so_A (h : Sound r) (g : Good S X C xc) : ∀ es, PA X es (canK C (stA r S xc es))
  | [] => mk_nil
  | e :: es => by
    unfold stA
    split
    · exact mk_cons (by assumption) (h.E g) (so_A h g es)
    · exact pa_bad
theorem so_L (h : Sound r) (g : Good S X C xc) : ∀ es, PA X es (canL C (stL r S xc es))
  | [] => by unfold stL; exact ml_of mk_nil
  | [e] => by
    unfold stL
    split
    · exact ml_last (by assumption) (h.V g)
    · exact pl_bad
  | e :: e2 :: es => by
    unfold stL
    split
    · exact ml_cons (by assumption) (h.E g) (so_L h g (e2 :: es))
    · exact pl_bad
theorem so_B (h : Sound r) (g : Good S X C xc) : ∀ ss, PSs X ss (canS C (stB r S xc ss))
  | [] => mb_nil
  | [s] => by unfold stB; exact mb_one (h.S g)
  | s :: s2 :: ss => by unfold stB; exact mb_cons (h.S g) (so_B h g (s2 :: ss))
theorem so_andV (h : Sound r) (g : Good S X C xc) {pos : Pos} : ∀ es, PE X (.BoolOp .And es pos) (canE C (stAndV r S xc es))
  | [] => pe_bad
  | [e] => by unfold stAndV; exact pe_one (h.E g)
  | e :: e2 :: es => by unfold stAndV; exact me_andV (t := pBad) (fun ta tb ha hb => pe_and ha hb) (h.E g) (so_andV h g (e2 :: es))
theorem so_orV (h : Sound r) (g : Good S X C xc) {pos : Pos} : ∀ es, PE X (.BoolOp .Or es pos) (canE C (stOrV r S xc es))
  | [] => pe_bad
  | [e] => by unfold stOrV; exact pe_one (h.E g)
  | e :: e2 :: es => by unfold stOrV; exact me_orV (t := pBad) (fun ta tb ha hb => pe_or ha hb) (h.E g) (so_orV h g (e2 :: es))
theorem so_andT (h : Sound r) (g : Good S X C xc) {pos : Pos} : ∀ es, PW X (.BoolOp .And es pos) (canT C (stAndT r S xc es))
  | [] => ⟨fun w pins s σ H Q I ⟨ts, vs, e1, P, R0, x, k⟩ => x.elim⟩
  | [e] => by unfold stAndT; exact pw_and1 (h.T g)
  | e :: e2 :: es => by unfold stAndT; exact mw_and (h.T g) (so_andT h g (e2 :: es))
theorem so_orT (h : Sound r) (g : Good S X C xc) {pos : Pos} : ∀ es, PW X (.BoolOp .Or es pos) (canT C (stOrT r S xc es))
  | [] => ⟨fun w pins s σ H Q I ⟨ts, vs, e1, P, R0, x, k⟩ => x.elim⟩
  | [e] => by unfold stOrT; exact pw_or1 (h.T g)
  | e :: e2 :: es => by unfold stOrT; exact mw_or (h.T g) (so_orT h g (e2 :: es))
theorem so_Gs (h : Sound r) (g : Good S X C xc) : ∀ es, PGs X es (canGs C (rho S) (stGs r S xc es))
  | [] => mgs_nil (rho_ok S)
  | e :: es => by
    unfold stGs
    split
    · exact mgs_cons (rho_ok S) (by assumption) (h.G g) (so_Gs h g es)
    · exact ⟨fun pins s σ H ws us Q I r ⟨ds, ts, vs, e1, P, hl, R0, w, k⟩ => w.elim⟩
theorem so_O (h : Sound r) (g : Good S X C xc) : ∀ o, PO X o (canO C (pPart (stO r S xc o)))
  | none => mo_none
  | some e => mo_some (h.E g)
theorem so_V (h : Sound r) (g : Good S X C xc) (e : Expr) : PE X e (canP C (stV r S xc e)) := by
  unfold stV
  split
  · obtain ⟨x, p, rfl, hv⟩ := g.name (by assumption)
    exact mp_pk hv
  · exact mp_of (h.E g)
theorem is_none {e : Expr} (h : isNone e = true) : ∃ k p, e = .Constant .none k p := by
  unfold isNone at h
  split at h
  · exact ⟨_, _, rfl⟩
  · cases h
theorem so_cmp (h : Sound r) (g : Good S X C xc) {pos : Pos} {a b : Expr} {op : CmpOp} : PE X (.Compare a [op] [b] pos) (canE C (stCmp r S xc a op b)) := by
  unfold stCmp
  split
  · split
    · obtain ⟨k, p, rfl⟩ := is_none (by assumption)
      exact me_isN (h.V g)
    · exact pe_bad
  · split
    · obtain ⟨k, p, rfl⟩ := is_none (by assumption)
      exact me_notN (h.V g)
    · exact pe_bad
  · split
    · rename_i hm
      split
      · rename_i neg x kvs hi hk
        obtain ⟨p, rfl, h1, h2, h3⟩ := g.kdof hk
        have e : op = inOp neg := isIn_ok hi
        subst e
        exact me_inK h3 h1 h2 hm (h.E g)
      · exact me_op rfl (fun ta tb ha hb => pe_cmpR (by rw [← g.K]; exact cmp_can op g.hu) ha hb (by assumption)) (h.E g) (h.V g)
    · exact pe_bad
/-- comparisons as tests -/
theorem mt_pB {p : pE} {t : TT} {e : Expr} (h : PT X e t) (f : ∀ σ H Q, canE C p σ H (fun x H' => ∃ k, x = .bl k ∧ Q k H') → t σ H Q) : PT X e (canT C (pB p)) :=
  h.up fun σ H Q ⟨ts, vs, e1, P, R, w, k⟩ => f σ H Q (useB R w fun b e' H' R' h' => ⟨b, rfl, k b e' H' R' h'⟩)
end
end PL
set_option Elab.async false
set_option linter.all false
set_option maxRecDepth 100000
set_option maxHeartbeats 4000000
/-! PL13: .. and those of calls, loops, statements. -/
namespace PL
open PySem PySem.Spec PyProof.Rows L2 PLX
section
variable {r : Sem} {S : SC} {X : Cx} {C : Cfg} {xc : XC}
theorem so_chain (h : Sound r) (g : Good S X C xc) {pos : Pos} {a b c : Expr} {op op' : CmpOp} (hm : lastMarks [op, op'] [b, c] = false) : PE X (.Compare a [op, op'] [b, c] pos) (canE C (pChain (cmpB op) (cmpB op') (r.E S xc a) (r.E S xc b) (r.V S xc c))) :=
  me_chain rfl rfl (fun ta tb tc ha hb hc => pe_chain (by rw [← g.K]; exact cmp_can op g.hu) (by rw [← g.K]; exact cmp_can op' g.hu) ha hb hc hm) (h.E g) (h.E g) (h.V g)
/-- the same, as a test -/
theorem so_chainT (h : Sound r) (g : Good S X C xc) {pos : Pos} {a b c : Expr} {op op' : CmpOp} (hm : lastMarks [op, op'] [b, c] = false) : PT X (.Compare a [op, op'] [b, c] pos) (canT C (pB (pChain (cmpB op) (cmpB op') (r.E S xc a) (r.E S xc b) (r.V S xc c)))) := by
  have k := pt_chain (pos := pos) (r := can2 C.K C.mg (cmpB op)) (r' := can2 C.K C.mg (cmpB op')) (by rw [← g.K]; exact cmp_can op g.hu) (by rw [← g.K]; exact cmp_can op' g.hu) (h.E g (e := a)) (h.E g (e := b)) (h.V g (e := c)) hm
  refine mt_pB k fun σ H Q w => ?_
  -- the value's reading, from its own rule over an expression that is only read
  obtain ⟨ts, vs, e, P, R, w, kk⟩ := w
  refine useF R w fun x e1 v H1 R1 h1 => useF R1 h1 fun y e2 w H2 ⟨S', R2⟩ h2 => ?_
  refine ⟨S', x, y, _, R2.sub, .inl R2.pop.topV, .inl R2.topV, h2, fun z v' H' res hz => ?_⟩
  split at hz
  · obtain ⟨S2, R3⟩ := R2.res res
    have t := R3.topV
    cases t
    refine ⟨true, rfl, iteT ?_⟩
    refine useP ⟨S2, R3.pop⟩ hz fun S4 d e4 w4 H4 R4 r4 h4 => ?_
    exact ⟨S4, y, d, _, R4.sub, .inl R4.topV, r4, h4, fun z v' H' res hz => kk z e4 v' H' (Rep.res R4.pop.pop res) hz⟩
  · obtain ⟨S2, R3⟩ := R2.res res
    have t := R3.topV
    cases t
    exact ⟨false, rfl, iteF (kk _ e2 _ _ ⟨S2, R3.pop.pop.pop.pushV (.bl _)⟩ hz)⟩
  · exact hz.elim
theorem so_cmpT (h : Sound r) (g : Good S X C xc) {pos : Pos} {a b : Expr} {op : CmpOp} : PT X (.Compare a [op] [b] pos) (canT C (pB (stCmp r S xc a op b))) := by
  unfold stCmp
  split
  · split
    · obtain ⟨k, p, rfl⟩ := is_none (by assumption)
      refine mt_pB (pt_cmp (pc_isN (h.V g))) fun σ H Q ⟨ts, vs, e, P, R, w, k⟩ => useP R w fun S x e1 v H1 R1 rx h1 => ?_
      rw [rx.isNon]
      exact k _ e1 _ H1 ⟨S, R1.pushV (.bl _)⟩ h1
    · exact ⟨fun pins s σ H Q I ⟨ts, vs, e1, P, R, w, k⟩ => w.elim⟩
  · split
    · obtain ⟨k, p, rfl⟩ := is_none (by assumption)
      refine mt_pB (pt_cmp (pc_notN (h.V g))) fun σ H Q ⟨ts, vs, e, P, R, w, k⟩ => useP R w fun S x e1 v H1 R1 rx h1 => ?_
      rw [rx.isNon]
      exact k _ e1 _ H1 ⟨S, R1.pushV (.bl _)⟩ h1
    · exact ⟨fun pins s σ H Q I ⟨ts, vs, e1, P, R, w, k⟩ => w.elim⟩
  · split
    · rename_i hm
      split
      · rename_i neg x kvs hi hk
        obtain ⟨p, rfl, h1, h2, h3⟩ := g.kdof hk
        have e : op = inOp neg := isIn_ok hi
        subst e
        exact mt_inK h3 h1 h2 hm (h.E g)
      refine mt_pB (pt_cmpR (r := can2 C.K C.mg (cmpB op)) (by rw [← g.K]; exact cmp_can op g.hu) (h.E g) (h.V g) (by assumption)) fun σ H Q ⟨ts, vs, e, P, R, w, k⟩ => ?_
      exact useF R w fun x e1 v H1 R1 h1 => useP R1 h1 fun S y e2 w H2 R2 ry h2 => ⟨S, x, y, _, R2.sub, .inl R2.topV, ry, h2, fun z v' H' res hz => k z e2 v' H' (Rep.res R2.pop res) hz⟩
    · exact ⟨fun pins s σ H Q I ⟨ts, vs, e1, P, R, w, k⟩ => w.elim⟩
theorem pt_plain {e : Expr} {t : TE} (hp : plainT e = true) (h : PE X e t) : PT X e (tB t) := by
  refine pt_val h fun whole => ?_
  cases e with
  | UnaryOp op a p => cases op <;> first | rfl | cases hp
  | BoolOp _ _ _ => cases hp
  | IfExp _ _ _ _ => cases hp
  | Compare _ _ _ _ => cases hp
  | _ => rfl
theorem so_T (h : Sound r) (g : Good S X C xc) (e : Expr) : PT X e (canT C (stT r S xc e)) := by
  unfold stT
  split
  · split
    · exact mt_not (h.T g)
    · refine mt_of (fun t ht => pt_plain ?_ ht) (h.E g)
      unfold plainT
      split <;> simp_all
  · split
    · exact ⟨fun pins s σ H Q I w => (so_andT h g _).run _ pins s σ H Q I w⟩
    · exact ⟨fun pins s σ H Q I w => (so_orT h g _).run _ pins s σ H Q I w⟩
  · exact pt_bad
  · split
    · exact so_cmpT h g
    · split
      · exact so_chainT h g (by assumption)
      · exact pt_bad
    · exact pt_bad
  · refine mt_of (fun t ht => pt_plain ?_ ht) (h.E g)
    unfold plainT
    split <;> simp_all
    all_goals
      rename_i q
      exact q _ _ _ _ rfl rfl rfl rfl

theorem mem_free {f : Str} {l : List Str} (h : l.contains f = true) : f ∈ l := by simpa using h
theorem lookup_in {α : Type} {f : Str} {b : α} : ∀ {l : List (Str × α)}, l.lookup f = some b → (f, b) ∈ l
  | [], h => by cases h
  | (g, c) :: l, h => by
    rw [List.lookup_cons] at h
    split at h
    · rename_i q
      cases h
      rw [beq_iff_eq.mp q]
      exact List.mem_cons_self
    · exact List.mem_cons_of_mem _ (lookup_in h)
def isBT : Value → Bool
  | .builtin _ => true
  | .type _ => true
  | _ => false
theorem bltTab_ok : (bltTab.all fun p => decide (bootBuiltins p.1 = some p.2.val) && isBT p.2.val) = true := by decide +kernel
theorem tyTab_ok : (tyTab.all fun p => decide (bootBuiltins p.1 = some (.type p.2))) = true := by decide +kernel
theorem bltOf_ok {f : Str} {b : Blt} (h : bltOf f = some b) : bootBuiltins f = some b.val ∧ ((∃ id, b.val = .builtin id) ∨ ∃ T, b.val = .type T) := by
  have q := List.all_eq_true.mp bltTab_ok _ (lookup_in h)
  rw [Bool.and_eq_true] at q
  refine ⟨of_decide_eq_true q.1, ?_⟩
  have q2 := q.2
  unfold isBT at q2
  split at q2
  · rename_i e; exact .inl ⟨_, e⟩
  · rename_i e; exact .inr ⟨_, e⟩
  · cases q2
theorem tyOf_ok {f : Str} {T : String} (h : tyOf f = some T) : bootBuiltins f = some (.type T) := of_decide_eq_true (List.all_eq_true.mp tyTab_ok _ (lookup_in h))
theorem ne_name {f : Str} (h : (!(f == ("__name__" : Str))) = true) : f ≠ "__name__" := by simpa using h
theorem so_call (h : Sound r) (g : Good S X C xc) {f : Str} {p pos : Pos} {es : List Expr} : PE X (.Call (.Name f p) es [] pos) (canE C (stCall r S xc f es)) := by
  unfold stCall
  split
  · exact pe_bad
  rename_i hh
  simp only [Bool.and_eq_true] at hh
  obtain ⟨⟨hg, hd⟩, hn⟩ := hh
  have hgl := g.gl_of hg
  split
  · rename_i np nloc ref q hG
    split
    · exact pe_bad
    rename_i hc
    obtain ⟨f', fd, ps, hm, hk, hb, F⟩ := g.gl.fn _ _ _ _ _ hG
    obtain ⟨hcalm, hr⟩ := g.calm hc
    split
    · split
      · exact pe_bad
      · rename_i es' hne
        cases es with
        | nil => exact absurd rfl hne
        | cons e es =>
          have hn2 : notStar e = true ∧ es.all notStar = true := by simpa using hn
          refine me_call (fun t ht => ?_) (so_A h g _)
          refine pe_callG (sp := l2sp C.K C.mg (semFn nloc np false q)) (E := WE (canX C xc)) (by rw [← g.K, ← g.mg]; exact F) g.gd hr hgl hm hk hb (fun σ => passAt g.takes σ) ht (dbg_ok hd).1 (star_cons hn2.1) (star_any hn2.2)
    · split
      · split
        · rename_i x0 q0 es0 _ i0 hs
          refine me_callR (x0 := .Name x0 q0) rfl (fun t ht => ?_) (g.read (pos := q0) hs) (so_A h g es0)
          exact pe_callG (sp := l2sp C.K C.mg (semFn nloc np true q)) (E := WE (canX C xc)) (by rw [← g.K, ← g.mg]; exact F) g.gd hr hgl hm hk hb (fun σ => passAt g.takes σ) ht (dbg_ok hd).1 (star_cons rfl) (star_any (by simpa [notStar] using hn))
        · exact pe_bad
      · exact pe_bad
  · exact pe_bad
  · exact pe_bad
  · split
    · exact pe_bad
    rename_i hf
    rw [Bool.and_eq_true] at hf
    have hfree := g.gl.free _ (mem_free hf.1)
    have hnn := ne_name hf.2
    split
    · rename_i hisi
      have ef : f = "isinstance" := beq_iff_eq.mp hisi
      subst ef
      split
      · rename_i a t pt
        split
        · rename_i ht
          simp only [Bool.and_eq_true] at ht
          obtain ⟨⟨⟨t1, t2⟩, t3⟩, t4⟩ := ht
          split
          · rename_i T hT
            have hn1 : notStar a = true := by
              rw [List.all_cons, Bool.and_eq_true] at hn
              exact hn.1
            refine me_isi (x2 := .Name t pt) g.K (fun ta ha => ?_) hn1 rfl (h.V g) (pe_bltn (g.gl_of t1) (g.gl.free _ (mem_free t3)) (tyOf_ok hT) rfl (ne_name t4) (dbg_ok t2).1)
            exact pe_callB call_isi hgl hfree (by decide +kernel) ha hnn (dbg_ok hd).1 (star_cons hn1) (star_any rfl)
          · exact pe_bad
        · split
          · exact pe_bad
          rename_i hc
          split
          · rename_i ht
            rw [Bool.and_eq_true] at ht
            split
            · rename_i y py
              split
              · rename_i i hi
                obtain ⟨a0, oe, X0, pn, cl, dd, y0, c0, b0, rfl, hex, hz, hfl, hy0, hex0⟩ := g.sui hc
                have hmy : (Cx.suite X0 a0 ((a0, oe) :: pn)).mg y0 = some (.ref cl) := by rw [g.mg]; exact hy0
                obtain ⟨Cy, Cc, m1, m2, m3, m4, m5, m6, m7⟩ := g.gl.exm _ _ _ hex0
                rw [hmy] at m1
                cases m1
                cases hlk : (Cx.suite X0 a0 ((a0, oe) :: pn)).mg t with
                | none =>
                  -- no such name: the reading is never met
                  refine ⟨fun pins s σ H Q I ⟨ts, vs, e1, P, R, ⟨x, b, hx, hb, hP⟩, k⟩ => ?_⟩
                  obtain ⟨Cy, Cc, k1, k2, _⟩ := g.gl.exm _ _ _ hb
                  rw [hlk] at k2
                  cases k2
                | some u =>
                  by_cases hu : ∃ cN, u = .ref cN
                  · obtain ⟨cN, rfl⟩ := hu
                    refine me_isX (X := X0) (e := .Name y py) (x2 := .Name t pt) (cN := cN) m6 hz hfl hex (by exact g.mg) (fun x b hx hmx => ?_) (fun ta hca hta => ?_) rfl rfl (g.read hi) (pe_glob (g.gl_of ht.1) hlk rfl (dbg_ok ht.2).1)
                    · obtain ⟨Cy, Cc, k1, k2, k3, k4, _⟩ := g.gl.exm _ _ _ hx
                      rw [g.mg, hmx] at k1
                      cases k1
                      rw [hlk] at k2
                      cases k2
                      exact k4
                    · exact pe_callB hca hgl hfree (by decide +kernel) hta hnn (dbg_ok hd).1 (star_cons rfl) (star_any rfl)
                  · refine ⟨fun pins s σ H Q I ⟨ts, vs, e1, P, R, ⟨x, b, hx, hb, hP⟩, k⟩ => ?_⟩
                    obtain ⟨Cy, Cc, k1, k2, _⟩ := g.gl.exm _ _ _ hb
                    rw [hlk] at k2
                    cases k2
                    exact absurd ⟨_, rfl⟩ hu
              · exact pe_bad
            · exact pe_bad
          · exact pe_bad
      · exact pe_bad
    · split
      · exact pe_bad
      rename_i hc
      split
      · rename_i b hb
        split
        · exact pe_bad
        · rename_i es' hne
          cases es with
          | nil => exact absurd rfl hne
          | cons e es =>
            have hn2 : notStar e = true ∧ es.all notStar = true := by simpa using hn
            obtain ⟨hv, hk⟩ := bltOf_ok hb
            refine me_blt rfl (fun ta hta => ?_) (so_L h g _)
            have hcr := blt_can (X := X) (mg := C.mg) g.gd (g.calm hc).1 g.hu b
            rw [g.K] at hcr
            rcases hk with ⟨id, e1⟩ | ⟨T, e1⟩
            · rw [e1] at hv hcr
              exact pe_callB hcr hgl hfree hv hta hnn (dbg_ok hd).1 (star_cons hn2.1) (star_any hn2.2)
            · rw [e1] at hv hcr
              exact pe_callTy hcr hgl hfree hv hta hnn (dbg_ok hd).1 (star_cons hn2.1) (star_any hn2.2)
      · exact pe_bad
theorem so_txt (h : Sound r) (g : Good S X C xc) {o e : Expr} {m : Str} {apos pos : Pos} (hn : notStar e = true) (hb : ∀ name, attributeBase o name X.env (eval o X.env) = eval o X.env) (hl : (apos.endLine == pos.line) = true) : PE X (.Call (.Attribute o m apos) [e] [] pos) (canE C (stTxt r S xc o m e)) := by
  have hs : starEach [e] X.env = [(false, eval e X.env)] := star_cons hn
  unfold stTxt
  split
  · rename_i hm
    have em : m = "join" := beq_iff_eq.mp hm
    subst em
    exact me_join (r := _) rfl (fun ta tb ha hb' => by rw [← g.K]; exact pe_join ha hb' hs (hb _) hl) (h.E g) (h.V g)
  · split
    · rename_i hm
      have em : m = "split" := beq_iff_eq.mp hm
      subst em
      exact me_split (r := _) rfl (fun ta tb ha hb' => pe_split ha hb' hs (hb _) hl) (h.E g) (h.E g)
    · exact pe_bad
theorem so_meth (h : Sound r) (g : Good S X C xc) {o : Expr} {m : Str} {apos pos : Pos} {es : List Expr} : PE X (.Call (.Attribute o m apos) es [] pos) (canE C (stMeth r S xc o m apos pos es)) := by
  unfold stMeth
  split
  · split
    · split
      · exact so_txt h g (by assumption) (fun _ => rfl) (by assumption)
      · exact pe_bad
    · exact pe_bad
  · split
    · exact pe_bad
    rename_i hi
    have hv := fun pos => g.read (pos := pos) hi
    split
    · exact pe_bad
    rename_i hl
    split
    · split
      · rename_i hm
        have em : m = "pop" := beq_iff_eq.mp hm
        subst em
        exact me_pop (pe_bm0 PySem.F.plainAttrs_list PySem.F.slot_list_pop PySem.F.type_list_pop mt_pop (hv _) rfl hl)
      · exact pe_bad
    · split
      · exact pe_bad
      rename_i e _ hn
      have few : ((backTo pos (starEach [e] X.env)).all (fun x => !x.1) && (backToKw pos (keywordEach [] X.env)).all (fun x => x.1.isSome)
          && decide ([e].length + ([] : List Keyword).length + (if ([] : List Keyword).isEmpty then 0 else 1) < 30)) = true := by
        rw [star_cons hn]
        rfl
      split
      · rename_i hm
        have em : m = "append" := beq_iff_eq.mp hm
        subst em
        exact me_append (fun t ht => pe_bm PySem.F.plainAttrs_list PySem.F.slot_list_append PySem.F.type_list_append mt_append (hv _) (pa_cons ht pa_nil (star_cons hn)) rfl few hl (star_cons hn) (star_any rfl)) (h.E g)
      · split
        · rename_i hm
          have em : m = "pop" := beq_iff_eq.mp hm
          subst em
          exact me_popAt (fun t ht => pe_bm PySem.F.plainAttrs_list PySem.F.slot_list_pop PySem.F.type_list_pop mt_popAt (hv _) (pa_cons ht pa_nil (star_cons hn)) rfl few hl (star_cons hn) (star_any rfl)) (h.E g)
        · split
          · rename_i hm
            have em : m = "extend" := beq_iff_eq.mp hm
            subst em
            exact me_extend (fun t ht => pe_bm PySem.F.plainAttrs_list PySem.F.slot_list_extend PySem.F.type_list_extend mt_extend (hv _) (pa_cons ht pa_nil (star_cons hn)) rfl few hl (star_cons hn) (star_any rfl)) (h.E g)
          · exact so_txt h g hn (fun _ => rfl) hl
    · exact pe_bad
  · exact pe_bad
end
end PL
set_option Elab.async false
set_option linter.all false
set_option maxRecDepth 100000
set_option maxHeartbeats 4000000
/-! PL14: all readings are sound. -/
namespace PL
open PySem PySem.Spec PyProof.Rows L2 PLX
section
variable {r : Sem} {S : SC} {X : Cx} {C : Cfg} {xc : XC}
theorem fold_no {iter : Expr} {env : Env} (h : noSet iter = true) : ∀ x, foldedSetIterable iter env x = pure x := fun x => by
  cases iter with
  | Set _ _ _ => cases h
  | _ => rfl
theorem swap_no {e : Expr} {tg : Expr} {l : Nat} {env : Env} (h : noComp e = true) : swapsWith e (some tg) l env = pure false := by
  cases e with
  | ListComp _ _ _ _ => cases h
  | SetComp _ _ _ _ => cases h
  | DictComp _ _ _ _ _ => cases h
  | _ => rfl
theorem swap_no0 {e : Expr} {l : Nat} {env : Env} (h : noComp e = true) : swapsWith e none l env = pure false := by
  cases e with
  | ListComp _ _ _ _ => cases h
  | SetComp _ _ _ _ => cases h
  | DictComp _ _ _ _ _ => cases h
  | _ => rfl
theorem plain_ix {b : Expr} (h : plainIx b = true) : PlainIx b := fun o i => by
  cases b with
  | Slice _ _ _ _ => cases h
  | Tuple _ _ _ => cases h
  | _ => rfl
theorem Good.blk (g : Good S X C xc) (hc : S.calm = true) (sc : Scope) (own : List (Str × Nat)) (s : Shared) (H : Hp) (Cl : Addr) (cl : List (Str × Addr)) (fp : List Addr) : Good (blkS S sc own) (X.blk s H sc (compEnvC sc cl Cl X.env) fp) C xno where
  gl := ⟨g.gl.fn, g.gl.con, g.gl.kd, g.gl.err, g.gl.exm, g.gl.free⟩
  K := g.K
  mg := g.mg
  N := g.N
  nd := g.nd
  sc := by
    show relS sc X.env.scope = relS sc S.sc
    rw [g.sc]
  gd := g.gd
  calm := fun _ => g.calm hc
  takes := takes_no
  po := PassesOwn.never
  hu := g.hu
  st := fun h => by cases h
  fn := fun h => by cases h
  exn := fun _ => g.exn hc
  sui := fun h => by
    have h : S.calm = false := h
    rw [hc] at h; cases h
theorem ifs_ok (h : Sound r) {S' : SC} {X' : Cx} {xc' : XC} (g : Good S' X' C xc') (ifs : List Expr) : PTs X' ifs (canT C (match ifs with
    | [] => pYes
    | [c] => r.T S' xc' c
    | _ => bT)) := by
  match ifs with
  | [] => exact pts_nil.up fun σ H Q ⟨ts, vs, e1, P, R, w, k⟩ => k true e1 H R w
  | [c] => exact pts_one (h.T g)
  | _ :: _ :: _ => exact ⟨fun pins s σ H Q I ⟨ts, vs, e1, P, R, w, k⟩ => w.elim⟩
theorem so_lc (h : Sound r) (g : Good S X C xc) {elt tg iter : Expr} {ifs : List Expr} {sc : Scope} {pos : Pos} : PE X (.ListComp elt [⟨tg, iter, ifs, 0⟩] sc pos) (canE C (stLc r S xc elt tg iter ifs sc)) := by
  unfold stLc
  split
  · exact pe_bad
  rename_i hh
  simp only [Bool.and_eq_true] at hh
  obtain ⟨⟨hc, hb⟩, hs⟩ := hh
  have B := fun s H Cl cl fp => g.blk hc sc (ownOf S.N sc.names) s H Cl cl fp
  refine (pe_lc (own := ownOf S.N sc.names) (g.calm hc).1 (by rw [g.N]; exact g.nd) (h.I g) (blkOk_by (by rw [g.N, g.sc]; exact hb)) (fun s H Cl cl fp => ?_) (fun s H Cl cl fp => ifs_ok h (B s H Cl cl fp) ifs) (fun s H Cl cl fp => h.E (B s H Cl cl fp)) (fold_no hs)).up fun σ H Q w => lc_can w
  exact h.G (B s H Cl cl fp)
theorem minus1_ok {e : Expr} (h : isMinus1 e = true) : ∃ j p1 p2, e = .UnaryOp .USub (.Constant (.int 1) j p1) p2 := by
  unfold isMinus1 at h
  split at h
  · have e := of_decide_eq_true h
    subst e
    exact ⟨_, _, _, rfl⟩
  · cases h
theorem so_E (h : Sound r) (g : Good S X C xc) (e : Expr) : PE X e (canE C (stE r S xc e)) := by
  unfold stE
  split
  · split
    · exact me_c (t := fun _ _ _ => False) pe_int fun S => .int _
    · exact me_c (t := fun _ _ _ => False) pe_str fun S => .str _
    · exact me_c (t := fun _ _ _ => False) pe_bl fun S => .bl _
    · exact me_c (t := fun _ _ _ => False) pe_non fun S => .non
    · exact pe_bad
  · split
    · exact me_var (g.read (by assumption))
    · split
      · exact pe_bad
      rename_i hg
      rw [Bool.and_eq_true] at hg
      split
      · rename_i d hd
        obtain ⟨u, v, h1, h2, h3⟩ := g.gl.con _ _ hd
        exact me_c (t := fun _ _ _ => False) (pe_glob (g.gl_of hg.1) h1 h2 (dbg_ok hg.2).1) fun S => by rw [← g.K, ← g.mg]; exact h3 S
      · exact pe_bad
  · exact me_op rfl (fun ta tb ha hb => pe_op (by rw [← g.K]; exact op_can _) ha hb) (h.E g) (h.V g)
  · split
    · exact me_notV (h.E g)
    · exact me_un rfl (fun ta ha => pe_un (by rw [← g.K]; exact un_can _) ha) (h.E g)
  · split
    · exact so_andV h g _
    · exact so_orV h g _
  · exact me_if (h.T g) (h.E g) (h.E g)
  · split
    · exact so_cmp h g
    · split
      · exact so_chain h g (by assumption)
      · exact pe_bad
    · exact pe_bad
  · exact me_tup (so_A h g _)
  · exact me_lst (so_A h g _)
  · split
    · split
      · split
        · obtain ⟨x, p, rfl, hv⟩ := g.name (by assumption)
          exact me_sliceN (t := canSl C.K C.mg) rfl (fun tl th hl hh => pe_slice (by rw [← g.K]; exact sl_can) hv hl hh) (so_O h g _) (so_O h g _)
        · exact me_slice (t := canSl C.K C.mg) rfl (fun ta tl th ha hl hh => pe_slice (by rw [← g.K]; exact sl_can) ha hl hh) (h.E g) (so_O h g _) (so_O h g _)
      · split
        · rename_i hm
          obtain ⟨j, p1, p2, rfl⟩ := minus1_ok hm
          exact me_revL (t := tRevL C.K) rfl (fun ta ha => by rw [← g.K]; exact pe_revL ha) (h.V g)
        · exact pe_bad
    · split
      · exact pe_bad
      rename_i hp
      split
      · obtain ⟨x, p, rfl, hv⟩ := g.name (by assumption)
        exact me_ixN rfl (fun tb hb => pe_ix (by rw [← g.K]; exact ix_can) hv hb (plain_ix hp)) (h.V g)
      · split
        · rename_i hk
          obtain ⟨p, rfl, h1, h2, h3⟩ := g.kdof hk
          exact me_ixK g.K g.mg h3 h1 h2 (plain_ix hp) (h.V g)
        · exact me_op rfl (fun ta tb ha hb => pe_ix (by rw [← g.K]; exact ix_can) ha hb (plain_ix hp)) (h.E g) (h.V g)
  · split
    · exact so_lc h g
    · exact pe_bad
  · split
    · split
      · exact so_call h g
      · exact so_meth h g
      · exact pe_bad
    · exact pe_bad
  · split
    · exact pe_bad
    rename_i hc
    split
    · rename_i i hi
      split
      · rename_i hf
        obtain ⟨x, p, rfl, hv⟩ := g.name hi
        obtain ⟨a0, oe, X0, pn, cl, dd, y0, c0, b0, rfl, hex, hz, hfl, hy0, hex0⟩ := g.sui hc
        obtain ⟨Cy, Cc, m1, m2, m3, m4, m5, m6, m7⟩ := g.gl.exm _ _ _ hex0
        rw [g.mg, hy0] at m1
        cases m1
        exact me_xf m5 (m7 _ (mem_free hf)) hz hfl hex hv rfl
      · exact pe_bad
    · exact pe_bad
  · exact pe_bad
theorem so_I (h : Sound r) (g : Good S X C xc) (tg e : Expr) : PI X tg e (canI C (stI r S xc tg e)) := by
  unfold stI
  split
  · split
    · rename_i hh
      simp only [Bool.and_eq_true] at hh
      obtain ⟨⟨⟨⟨⟨hc, hg⟩, hd⟩, hf⟩, hn⟩, hr⟩ := hh
      rename_i f _ es _ _
      have ef : f = "range" := beq_iff_eq.mp hr
      subst ef
      split
      · split
        · exact mi_range1 (fun ta ha => pi_range1 (g.gl_of hg) (g.gl.free _ (mem_free hf)) ha (star_cons (by assumption))) (by assumption) (h.E g)
        · exact pi_bad
      · split
        · rename_i hn2
          rw [Bool.and_eq_true] at hn2
          exact mi_range2 (fun ta ha => pi_range2 (g.gl_of hg) (g.gl.free _ (mem_free hf)) ha (by rw [star_cons hn2.1, star_cons hn2.2]; rfl) (star_cons hn2.2)) hn2.1 hn2.2 (h.E g) (h.E g)
        · exact pi_bad
      · split
        · rename_i hn2
          rw [Bool.and_eq_true, Bool.and_eq_true] at hn2
          exact mi_range3 (fun ta ha => pi_range3 (g.gl_of hg) (g.gl.free _ (mem_free hf)) ha (by rw [star_cons hn2.1]) (by rw [star_cons hn2.2.1, star_cons hn2.2.2]; rfl)) hn2.1 hn2.2.1 hn2.2.2 (h.E g) (h.E g) (h.E g)
        · exact pi_bad
      · exact pi_bad
    · split
      · rename_i hh
        simp only [Bool.and_eq_true] at hh
        obtain ⟨⟨⟨⟨⟨hc, hg⟩, hd⟩, hf⟩, hn⟩, hr⟩ := hh
        rename_i f _ _ _ _ _ _
        have ef : f = "enumerate" := beq_iff_eq.mp hr
        subst ef
        split
        · split
          · split
            · exact mi_enumP g.K (g.gl_of hg) (g.gl.free _ (mem_free hf)) (by assumption) (h.E g)
            · exact pi_bad
          · exact pi_bad
        · exact pi_bad
      · exact mi_val g.K (so_call h g)
  · exact mi_val g.K (h.E g)
theorem asg_sub {o i : Expr} {pos : Pos} {env : Env} (hp : plainIx i = true) (v : Value) : assign (.Subscript o i pos) env v = (do
      let ov ← holding [v] (eval o env)
      let iv ← holding [v, ov] (eval i env)
      standAt pos
      holding [v, ov, iv] (setItem ov iv v)
      release [v, ov, iv] []) := by
  cases i with
  | Slice _ _ _ _ => cases hp
  | _ => rfl
theorem aug_sub {i : Expr} (hp : plainIx i = true) (ov iv new : Value) : augStore i ov iv new = (do holding [new, ov, iv] (setItem ov iv new); release [new, ov, iv] []; pure .next) := by
  cases i with
  | Slice _ _ _ _ => cases hp
  | _ => rfl
theorem so_G (h : Sound r) (g : Good S X C xc) (e : Expr) : PG X e (canG C (rho S) (stG r S xc e)) := by
  unfold stG
  split
  · split
    · obtain ⟨h1, h2, h3, h4⟩ := g.write (by assumption)
      exact mg_name (pg_name (by rw [g.N]; exact g.nd) (by rw [g.N]; exact h1) h2 h3) h4
    · exact pg_bad
  · split
    · rename_i hh
      rw [Bool.and_eq_true] at hh
      exact mg_tup (g.calm hh.1).1 hh.2 g.K (so_Gs h g _)
    · exact pg_bad
  · split
    · rename_i k hk hp
      obtain ⟨x, p, rfl, hv⟩ := g.name hk
      exact mg_ix (rho_ok S) (fun ti hti => pg_sub hv hti set_list (ha := asg_sub hp)) (h.E g)
    · exact pg_bad
  · exact pg_bad

theorem rho_none (h : S.own = none) : rho S = anySt := by
  unfold rho
  rw [h]
theorem loc_k {x : Str} (g : Good S X C xc) (h : isLocK S.sc x = true) : X.env.scope.names.lookup x = some .local := by
  unfold isLocK at h
  rw [g.sc]
  split at h
  · assumption
  · cases h
theorem pair_swap {x y : Str} {px py : Pos} {kt k2 : Nat} {pt pt2 : Pos} {a b : Expr} {env : Env} (hk : env.scope.kind = .function) (hl : (px.line == py.line) = true) (hxy : (x == y) = false) (ha : notStar a = true) (hb : notStar b = true) (hf : [a, b].all (foldedForSure 8) = false) (hcn : [a, b].all (constantsAlone 8) = false)
    (hx : env.scope.names.lookup x = some .local) (hy : env.scope.names.lookup y = some .local) : swappedStores [.Tuple [.Name x px, .Name y py] kt pt] (.Tuple [a, b] k2 pt2) env = pure (some [x, y]) := by
  have kx : env.kindOf x = some .local := hx
  have ky : env.kindOf y = some .local := hy
  have hb1 : env.blockKind = .function := by unfold Env.blockKind; rw [hk]; rfl
  have ed : [x, y].eraseDups.length = 2 := by
    have hyx : (y == x) = false := by rw [beq_eq_false_iff_ne] at hxy ⊢; exact Ne.symm hxy
    simp [List.eraseDups_cons, hxy, hyx]
  have hl2 : (py.line == px.line) = true := by rw [beq_iff_eq] at hl ⊢; exact hl.symm
  unfold swappedStores
  simp only [hb1, hf, hcn, List.length_cons, List.length_nil, List.head?_cons, List.filterMap_cons, List.filterMap_nil, kx, ky, Expr.pos, hl2, Option.map_some, Option.getD_some]
  simp only [List.any_cons, List.any_nil]
  simp [ed]
  rintro (q | q)
  · split at q
    · cases ha
    · cases q
  · split at q
    · cases hb
    · cases q
theorem so_setLc (h : Sound r) (g : Good S X C xc) {x : Str} {px pos spos : Pos} {i : Nat} {elt tg iter : Expr} {ifs : List Expr} {sc : Scope} (hi : slotW S x = some i) : PS X (.Assign [.Name x px] (.ListComp elt [⟨tg, iter, ifs, 0⟩] sc pos) spos) (canS C (sAsg (stLc r S xc elt tg iter ifs sc) (gP i))) := by
  obtain ⟨h1, h2, h3, h4⟩ := g.write hi
  have hN : X.N.Nodup := by rw [g.N]; exact g.nd
  have e : swapsWith (.ListComp elt [⟨tg, iter, ifs, 0⟩] sc pos) (some (.Name x px)) spos.line X.env = pure (X.env.blockKind == .function && X.env.kindOf x == some .local && px.line == pos.line && !(sc.names.any fun (n, k) => n == x && (k == .local || k == .cell))) := rfl
  cases hb : (X.env.blockKind == .function && X.env.kindOf x == some .local && px.line == pos.line && !(sc.names.any fun (n, k) => n == x && (k == .local || k == .cell))) with
  | false => exact ms_set (fun te hte => ps_set hN (by rw [g.N]; exact h1) h2 hte (by rw [e, hb]) h3) (so_lc h g)
  | true =>
    rw [hb] at e
    simp only [Bool.and_eq_true, beq_iff_eq] at hb
    unfold stLc
    split
    · exact PL.S.up ps_never fun Dn σ H ts vs e Q R h k => h.elim
    rename_i hh
    simp only [Bool.and_eq_true] at hh
    obtain ⟨⟨hc, hk⟩, hs⟩ := hh
    have B := fun s H Cl cl fp => g.blk hc sc (ownOf S.N sc.names) s H Cl cl fp
    refine PL.S.up (ps_setLc (own := ownOf S.N sc.names) (g.calm hc).1 hN (by rw [g.N]; exact h1) hb.1.1.2 e (h.I g) (blkOk_by (by rw [g.N, g.sc]; exact hk)) (fun s H Cl cl fp => h.G (B s H Cl cl fp)) (fun s H Cl cl fp => ifs_ok h (B s H Cl cl fp) ifs) (fun s H Cl cl fp => h.E (B s H Cl cl fp)) (fold_no hs)) fun Dn σ H ts vs e Q R w k => ?_
    exact lc_can (useE R w fun sv e' v H' ⟨S, R'⟩ ⟨_, h'⟩ => k.nx _ _ H' ⟨S, R'.store⟩ h')
theorem swapped_no {tg e : Expr} {env : Env} (h : noSwap tg e = true) : swappedStores [tg] e env = pure none := by
  cases tg with
  | Tuple _ _ _ => cases e with
    | Tuple _ _ _ => cases h
    | _ => rfl
  | List _ _ => cases e with
    | Tuple _ _ _ => cases h
    | _ => rfl
  | _ => rfl
theorem asg_each {tg : Expr} {env : Env} (h : notStar tg = true) : (assignEach [tg] env).map (·.2) = [assign tg env] := by
  cases tg with
  | Starred _ _ => cases h
  | _ => rfl
theorem pairW_ok {tg e a b : Expr} {x y : Str} (h : pairW tg e = some (x, y, a, b)) : ∃ px py kt pt k2 pt2, tg = .Tuple [.Name x px, .Name y py] kt pt ∧ e = .Tuple [a, b] k2 pt2 ∧ (px.line == py.line) = true ∧ (x == y) = false ∧ notStar a = true ∧ notStar b = true ∧ [a, b].all (foldedForSure 8) = false ∧ [a, b].all (constantsAlone 8) = false := by
  unfold pairW at h
  split at h
  · split at h
    · rename_i hh
      cases h
      simp only [Bool.and_eq_true, Bool.not_eq_true'] at hh
      obtain ⟨⟨⟨⟨⟨h1, h2⟩, h3⟩, h4⟩, h5⟩, h6⟩ := hh
      exact ⟨_, _, _, _, _, _, rfl, rfl, h1, h2, h3, h4, h5, h6⟩
    · cases h
  · cases h
theorem Good.tr (g : Good S X C xc) (ho : S.own = none) (hc : S.calm = true) {C' : Cfg} {xc' : XC} {pn : List (Addr × Obj)} {xe : Value → Shared → Prop} (e1 : C'.K = C.K) (e2 : C'.mg = C.mg) (e3 : C'.ex = C.ex) (tk : Takes (X.tr pn xe) (canX C' xc')) (po : PassesOwn (model X.prog X.w) X.A X.env xe) : Good S (X.tr pn xe) C' xc' where
  gl := g.gl
  K := g.K.trans e1.symm
  mg := g.mg.trans e2.symm
  N := g.N
  nd := g.nd
  sc := g.sc
  gd := g.gd
  calm := g.calm
  takes := tk
  po := po
  hu := g.hu
  st := g.st
  fn := g.fn
  exn := fun h => e3.trans (g.exn h)
  sui := fun h => by rw [hc] at h; cases h
theorem Good.suite (g : Good S X C xc) (ho : S.own = none) {C' : Cfg} {a : Addr} {oe : Obj} {pn : List (Addr × Obj)} {y c : Str} {b : Bool} {cl dd : Addr} (e1 : C'.K = C.K) (e2 : C'.mg = C.mg) (e3 : C'.ex = some (a, .ref cl, some dd)) (hz : Zc (.ref cl) (some dd) oe) (hf : ∃ vs, oe.data = .fields vs) (hy : C.mg y = some (.ref cl)) (hb : S.exm.lookup (y, c) = some b) :
    Good { S with calm := false } (X.suite a ((a, oe) :: pn)) C' xno where
  gl := ⟨g.gl.fn, g.gl.con, g.gl.kd, g.gl.err, g.gl.exm, g.gl.free⟩
  K := g.K.trans e1.symm
  mg := g.mg.trans e2.symm
  N := g.N
  nd := g.nd
  sc := g.sc
  gd := g.gd
  calm := fun h => by cases h
  takes := takes_no
  po := PassesOwn.never
  hu := g.hu
  st := fun _ h => by cases h
  fn := g.fn
  exn := fun h => by cases h
  sui := fun _ => ⟨a, oe, X, pn, cl, dd, y, c, b, rfl, e3, hz, hf, by rw [e2]; exact hy, hb⟩
theorem so_S (h : Sound r) (g : Good S X C xc) (st : Stmt) : PS X st (canS C (stS r S xc st)) := by
  unfold stS
  split
  · exact ms_pass
  · exact ms_break
  · exact ms_continue
  · split
    · exact PL.S.up ps_doc fun Dn σ H ts vs e Q R h k => k.nx e σ H R h
    · split
      · exact ms_expr (fun te hte => ps_expr hte (swap_no0 (by assumption))) (h.E g)
      · exact ps_bad
  · split
    · exact ms_retN
    · split
      · obtain ⟨x, p, rfl, hv⟩ := g.name (by assumption)
        exact ms_ret (me_move hv)
      · exact ms_ret (h.E g)
  · exact ms_if (h.T g) (so_B h g _) (so_B h g _)
  · split
    · rename_i hc ho
      have hca := (g.calm hc).1
      split
      · split
        · rename_i i hi
          obtain ⟨h1, h2, h3, h4⟩ := g.write hi
          have hN : X.N.Nodup := by rw [g.N]; exact g.nd
          split
          · exact so_setLc h g hi
          · split
            · exact ms_set (fun te hte => ps_set hN (by rw [g.N]; exact h1) h2 hte (swap_no (by assumption)) h3) (h.E g)
            · exact ps_bad
        · exact ps_bad
      · split
        · exact ps_bad
        rename_i hh
        rw [Bool.and_eq_true] at hh
        split
        · rename_i hns
          refine ms_asg (fun te hte => ps_asg hte (h.G g) (swap_no hh.1) (swapped_no hns) (asg_each hh.2)) (by rw [rho_none ho]) (h.E g)
        · split
          · rename_i x y a b hp
            obtain ⟨px, py, kt, pt, k2, pt2, rfl, rfl, p1, p2, p3, p4, p5, p6⟩ := pairW_ok hp
            split
            · rename_i i j hk hi hj
              simp only [Bool.and_eq_true] at hk
              obtain ⟨⟨k1, k2'⟩, k3⟩ := hk
              split
              · exact ps_bad
              · rename_i hij
                have hij : i ≠ j := by simpa using hij
                obtain ⟨h1, h2, h3, h4⟩ := g.write hi
                obtain ⟨h1', h2', h3', h4'⟩ := g.write hj
                have kf : X.env.scope.kind = .function := by
                  unfold kindFn at k1
                  rw [g.sc]
                  split at k1
                  · assumption
                  · cases k1
                have hx := loc_k g k2'
                have hy := loc_k g k3
                exact ms_par (fun ta hta => ps_par hca (by rw [g.N]; exact g.nd) (by rw [g.N]; exact h1) (by rw [g.N]; exact h1') hij hx hy hta (pair_swap kf p1 p2 p3 p4 p5 p6 hx hy)) hij (so_A h g _)
            · exact ps_bad
          · exact ps_bad
    · exact ps_bad
  · split
    · split
      · rename_i k hk hp
        obtain ⟨x, p, rfl, hv⟩ := g.name hk
        exact ms_augIx (fun ti te hti hte => ps_augS hv hti get_list hte ip_add set_list (aug_sub hp)) (h.E g) (h.E g)
      · exact ps_bad
    · exact ps_bad
  · split
    · rename_i hc ho hs
      exact ms_for (fun wi gg tb hwi hg hb => ps_for g.po (g.calm hc).1 hwi hg hb (fold_no hs)) (h.I g) (by rw [← rho_none ho]; exact h.G g) (so_B h g _)
    · exact ps_bad
  · split
    · exact ms_while g.po (h.T g) (so_B h g _)
    · exact ps_bad
  · split
    · rename_i f pf es pos hc ho
      split
      · rename_i x fs hh hl
        simp only [Bool.and_eq_true] at hh
        obtain ⟨⟨h1, h2⟩, h3⟩ := hh
        split
        · exact ps_bad
        · rename_i es' hne
          cases es with
          | nil => exact absurd rfl hne
          | cons e es =>
            have hn2 : notStar e = true ∧ es.all notStar = true := by simpa using h3
            obtain ⟨hsup, Ca, fI, qual, params, scope, text, kk, p0, p1, p2, p3, p4, p5, rows, m1, m2, m3, m4, m5, m6⟩ := g.gl.err _ _ _ hl
            obtain ⟨hca, hr⟩ := g.calm hc
            exact ms_raise hca g.takes (by rw [← g.mg]; exact m1) (fun ta hta => pmk_x m2 m3 m4 m5 m6 (List.cons_ne_nil _ _) hr (g.gl_of h1) m1 hsup (dbg_ok h2).1 hta hn2.1 hn2.2) (so_A h g _)
      · exact ps_bad
    · exact ps_bad
  · split
    · rename_i c pc n s0 suite ph hc ho
      split
      · rename_i i hh hi
        simp only [Bool.and_eq_true] at hh
        obtain ⟨⟨⟨h1, h2⟩, h3⟩, h4⟩ := hh
        obtain ⟨b0, hb0⟩ := Option.isSome_iff_exists.mp h4
        obtain ⟨Cy, Cc, k1, k2, _⟩ := g.gl.exm _ _ _ hb0
        obtain ⟨w1, w2, w3, w4⟩ := g.write hi
        refine ms_tryAs (c := Cc) g.K (g.exn hc) (fun x b cl hx hm => ?_) (ps_try_as (ts := tTryS C (fun y => S.exm.lookup (y, c)) (stB r { S with calm := false } xno (s0 :: suite))) (tb := fun W => tTryB C (fun xc' => stB r S xc' _) W) (g.st ho hc).1 (g.st ho hc).2 (by rw [g.N]; exact g.nd) (by rw [g.N]; exact w1) (loc_k g h3) ⟨g.gl_of h1, (dbg_ok h2).1, .inl k2⟩ g.takes (fun W pn xe tk po => ?_) (fun a oe cls d pn hz hf => ?_))
        · obtain ⟨Cy', Cc', q1, q2, q3, _⟩ := g.gl.exm _ _ _ hx
          rw [g.mg, hm] at q1
          cases q1
          rw [k2] at q2
          cases q2
          exact q3
        · exact try_body tk fun C' xc' e1 e2 e3 tk' => so_B h (g.tr ho hc e1 e2 e3 tk' po) _
        · exact try_suite hz hf fun C' x cl dd e1 e2 e3 e4 ⟨b, e5⟩ hz' => so_B h (g.suite ho e1 e2 e3 hz' hf e4 e5) _
      · exact ps_bad
    · exact ps_bad
  · exact ps_bad
theorem sound_step (h : Sound r) : Sound r.step := ⟨fun g => so_E h g _, fun g => so_V h g _, fun g => so_T h g _, fun g => so_I h g _ _, fun g => so_G h g _, fun g => so_S h g _⟩
theorem sound : ∀ n, Sound (sem n)
  | 0 => sound_bad
  | n + 1 => sound_step (sound n)
end
end PL
set_option Elab.async false
set_option linter.all false
set_option maxRecDepth 100000
set_option maxHeartbeats 4000000
/-! PL15: defs by their readings; the head. -/
namespace PL
open PySem PySem.Spec PyProof.Rows L2 PLX

/-- a def of the module keeps the promise of its reading -/
def Has (P : Program) (w : World) (K : PySem.W.Frag) (mg : Str → Option Value) (base : Heap) (lev : Nat) (x : Str) (np nloc : Nat) (ref : Bool) (p : XC → pS) : Prop :=
  ∃ f fd ps, mg x = some (.ref f) ∧ PySem.W.keepIn K (.ref f) = true ∧ Binds K fd ps [] ∧ FnG P w K mg base (L2.CX P w) lev f fd ps (l2sp K mg (semFn nloc np ref p))
def Con (K : PySem.W.Frag) (mg : Str → Option Value) (x : Str) (d : D) : Prop := ∃ u v, mg x = some u ∧ RelV v u ∧ ∀ S, Rp K mg S d v
structure GOk (P : Program) (w : World) (K : PySem.W.Frag) (mg : Str → Option Value) (base : Heap) (lev : Nat) (G : List (Str × GE)) : Prop where
  fn : ∀ x np nloc ref p, G.lookup x = some (.fn np nloc ref p) → Has P w K mg base lev x np nloc ref p
  con : ∀ x d, G.lookup x = some (.con d) → Con K mg x d
  kd : ∀ x kvs, G.lookup x = some (.kd kvs) → KdOk K w mg x kvs
section
variable {P : Program} {w : World} {K : PySem.W.Frag} {mg : Str → Option Value} {base : Heap} {lev : Nat} {G : List (Str × GE)}
theorem gok_nil : GOk P w K mg base lev [] := ⟨fun _ _ _ _ _ h => (by cases h), fun _ _ h => (by cases h), fun _ _ h => (by cases h)⟩
theorem gok_fn {x : Str} {np nloc j : Nat} {ref : Bool} {p : XC → pS} (h : Has P w K mg base j x np nloc ref p) (hj : j ≤ lev) (t : GOk P w K mg base lev G) : GOk P w K mg base lev ((x, .fn np nloc ref p) :: G) where
  fn := fun y a b c q e => by
    rw [List.lookup_cons] at e
    split at e
    · rename_i z
      cases e
      obtain ⟨f, fd, ps, h1, h2, h3, h4⟩ := h
      rw [beq_iff_eq.mp z]
      exact ⟨f, fd, ps, h1, h2, h3, h4.mono hj⟩
    · exact t.fn y a b c q e
  con := fun y d e => by
    rw [List.lookup_cons] at e
    split at e
    · cases e
    · exact t.con y d e
  kd := fun y d e => by
    rw [List.lookup_cons] at e
    split at e
    · cases e
    · exact t.kd y d e
theorem gok_con {x : Str} {d : D} (h : Con K mg x d) (t : GOk P w K mg base lev G) : GOk P w K mg base lev ((x, .con d) :: G) where
  fn := fun y a b c q e => by
    rw [List.lookup_cons] at e
    split at e
    · cases e
    · exact t.fn y a b c q e
  con := fun y d e => by
    rw [List.lookup_cons] at e
    split at e
    · rename_i z
      cases e
      rw [beq_iff_eq.mp z]
      exact h
    · exact t.con y d e
  kd := fun y d e => by
    rw [List.lookup_cons] at e
    split at e
    · cases e
    · exact t.kd y d e
theorem gok_kd {x : Str} {kvs : List (Str × D)} (h : KdOk K w mg x kvs) (t : GOk P w K mg base lev G) : GOk P w K mg base lev ((x, .kd kvs) :: G) where
  fn := fun y a b c q e => by
    rw [List.lookup_cons] at e
    split at e
    · cases e
    · exact t.fn y a b c q e
  con := fun y d e => by
    rw [List.lookup_cons] at e
    split at e
    · cases e
    · exact t.con y d e
  kd := fun y d e => by
    rw [List.lookup_cons] at e
    split at e
    · rename_i z
      cases e
      rw [beq_iff_eq.mp z]
      exact h
    · exact t.kd y d e
/-- what all defs share -/
structure Com (S : SC) (P : Program) (K : PySem.W.Frag) (mg : Str → Option Value) : Prop where
  err : ∀ c f fs, S.errs.lookup c = some (f :: fs) → mg "super" = none ∧ ∃ (C fI : Addr) (qual : Str) (params : Arguments) (scope : Scope) (text : Str) (kk : Nat) (p0 p1 p2 p3 p4 p5 : Pos) (rows : List Stmt), mg c = some (.ref C) ∧ (p2.endLine == p3.line) = true ∧
    OwnC P K C fI qual params (supRow text kk p0 p1 p2 p3 p4 p5 :: rows) scope (f :: fs) ∧ OwnS P params scope (f :: fs) ∧ FldRows (f :: fs) rows ∧ (f :: fs).length ≤ 900
  exm : ∀ y c b, S.exm.lookup (y, c) = some b → ∃ Cy Cc, mg y = some (.ref Cy) ∧ mg c = some (.ref Cc) ∧ PySem.W.exmOne K (.ref Cy) (.ref Cc) = some b ∧ PySem.W.kitOne K (.ref Cy) (.ref Cc) = some b ∧ XfC K Cy ∧ ExcC K Cy ∧ ∀ f ∈ S.flds, PySem.W.findIn K (.ref Cy) f = some none
  free : ∀ x ∈ S.free, mg x = none
theorem glob_of {S : SC} (c : Com S P K mg) (g : GOk P w K mg base S.lev S.G) : Glob S P w K mg base := ⟨g.fn, g.con, g.kd, c.err, c.exm, c.free⟩

theorem good_cx {x qual : Str} {params : Arguments} {body : List Stmt} {S : SC} {f : Addr} {cdv : Value} {A : Around} {outer : List Env} {s : Shared} {H : Hp} {E : XK} {C : Cfg} {xc : XC} (gl : Glob S P w K mg base) (hgd : A.guards = some []) (hnd : S.N.Nodup) (hc : S.calm = true) (ho : S.own = none)
    (e1 : C.K = K) (e2 : C.mg = mg) (e3 : C.ex = none) (hr : Room S.lev (A.deeper (envOfC qual S.sc s.heap.objs.size f cdv))) (hE : ∀ cls d σ H', canX C xc cls d σ H' → E cls d H') :
    Good S (cxOf (L2.CX P w) P w K mg base S.N qual S.sc f cdv A outer s H E) C xc where
  gl := gl
  K := e1.symm
  mg := e2.symm
  N := rfl
  nd := hnd
  sc := rfl
  gd := hgd
  calm := fun _ => ⟨rfl, hr⟩
  takes := (takes_of (E := E) rfl rfl rfl rfl).imp fun cls d σ H h => hE cls d σ H h
  po := passes_of rfl
  hu := hr.units
  st := fun _ _ => ⟨rfl, rfl⟩
  fn := fun _ _ => rfl
  exn := fun _ => e3
  sui := fun h => by rw [hc] at h; cases h
/-- THE RULE for a def -/
theorem has_def {n : Nat} {S : SC} {d : He.DefD} {ps : List Str} {nloc : Nat} {ref : Bool} {p : XC → pS} {x : Str} (hd : ∃ fd, FunD K d.name d.qual d.params d.body d.scope [] [] (He.fAd K d.at_) fd) (hm : mg x = some (.ref (He.fAd K d.at_))) (hsc : S.sc = d.scope) (Sc : FnScope S.N ps S.sc) (hc : S.calm = true) (ho : S.own = none) (hn : ps.length + nloc = S.N.length)
    (hb : ∀ (kV doc pm : Value) (an : Option Addr) (cdv ct : Value) (us : List Value), us.length = ps.length → bindArgs (PySem.W.fnOf d.name d.qual d.params d.body d.scope .none kV doc pm an cdv ct) ⟨us, []⟩ = pure (ps.zip us))
    (hp : ∀ xc, stB (sem n) S xc d.body = p xc) (c : Com S P K mg) (g : GOk P w K mg base S.lev S.G) : Has P w K mg base (S.lev + 1) x ps.length nloc ref p := by
  obtain ⟨fd, F⟩ := hd
  refine ⟨_, fd, ps, hm, F.kp, F.bindsN hb, ?_⟩
  rw [← hsc] at F
  refine fn_def F Sc hn fun cdv A outer s H E C xc hgd e1 e2 e3 hr hE => ?_
  rw [← hp xc]
  exact so_B (sound n) (good_cx (x := x) (params := d.params) (body := d.body) (glob_of c g) hgd Sc.nd hc ho e1 e2 e3 hr hE) d.body

/-- the law's own def: nothing leaves it -/
theorem law_fn {n : Nat} {S : SC} {d : He.DefD} {nloc : Nat} {p : XC → pS} {fd : FuncData} {f : Addr} (F : FunD K d.name d.qual d.params d.body d.scope [] [] f fd) (hsc : S.sc = d.scope) (Sc : FnScope S.N ["script"] S.sc) (hc : S.calm = true) (ho : S.own = none) (hn : 1 + nloc = S.N.length)
    (hp : ∀ xc, stB (sem n) S xc d.body = p xc) (c : Com S P K mg) (g : GOk P w K mg base S.lev S.G) : FnG P w K mg base (fun _ _ _ _ _ _ => False) (S.lev + 1) f fd ["script"] (fun vs H Q _ => l2sp K mg (semFn nloc 1 false p) vs H Q fun _ _ _ => False) := by
  have F0 : FnG P w K mg base (L2.CX P w) (S.lev + 1) f fd ["script"] (l2sp K mg (semFn nloc 1 false p)) := by
    rw [← hsc] at F
    refine fn_def F Sc hn fun cdv A outer s H E C xc hgd e1 e2 e3 hr hE => ?_
    rw [← hp xc]
    exact so_B (sound n) (good_cx (x := "law") (params := d.params) (body := d.body) (glob_of c g) hgd Sc.nd hc ho e1 e2 e3 hr hE) d.body
  refine ⟨fun vs H Q E h => F0.len vs H Q _ h, fun A outer s H args us vs Q E hgd hr he hb hv hs => ?_⟩
  refine codeAny_mono (F0.run A outer s H args us vs Q _ hgd hr he hb hv hs) fun r s' h => ?_
  cases r with
  | error e =>
    obtain ⟨_, _, _, _, _, _, _, _, _, _, _, _, z⟩ := h
    exact z.elim
  | ok fl => cases fl <;> exact h

/-! ### constants -/
mutual
def conB (K : PySem.W.Frag) : Value → D → Bool
  | .none, .non => true
  | .bool b, .bl c => b == c
  | .int i _, .int j => decide (i = j)
  | .str x _, .str y => decide (x = y)
  | .ref a, .tup ds => (match K.lookup a with
    | some ⟨.type c, _, .seq its _, _⟩ => decide (c = "tuple") && (decide (its.size ≤ sizeLine) && conL K its.toList ds)
    | _ => false)
  | _, _ => false
def conL (K : PySem.W.Frag) : List Value → List D → Bool
  | [], [] => true
  | u :: us, d :: ds => conB K u d && conL K us ds
  | _, _ => false
end
mutual
theorem conB_ok : ∀ (d : D) {u : Value}, conB K u d = true → ∃ v, RelV v u ∧ ∀ S, Rp K mg S d v
  | .non, u, h => by cases u <;> first | exact ⟨.non, rfl, fun _ => .non⟩ | cases h
  | .bl c, u, h => by
    cases u with
    | bool b =>
      have e : b = c := by unfold conB at h; exact beq_iff_eq.mp h
      subst e
      exact ⟨.bl b, rfl, fun _ => .bl b⟩
    | _ => cases h
  | .int j, u, h => by
    cases u with
    | int i t =>
      have e : i = j := by unfold conB at h; exact of_decide_eq_true h
      subst e
      exact ⟨.int i, ⟨t, rfl⟩, fun _ => .int i⟩
    | _ => cases h
  | .str j, u, h => by
    cases u with
    | str i t =>
      have e : i = j := by unfold conB at h; exact of_decide_eq_true h
      subst e
      exact ⟨.str i, ⟨t, rfl⟩, fun _ => .str i⟩
    | _ => cases h
  | .tup ds, u, h => by
    cases u with
    | ref a =>
      unfold conB at h
      split at h
      · rename_i c od its n sl q
        rw [Bool.and_eq_true, Bool.and_eq_true] at h
        obtain ⟨h1, h2, h3⟩ := h
        obtain ⟨vs, r1, r2⟩ := conL_ok ds h3
        exact ⟨.ref a, rfl, fun S => .tup (.inr ⟨_, its, n, q, congrArg Value.type (of_decide_eq_true h1), rfl, of_decide_eq_true h2, r1⟩) (r2 S)⟩
      · cases h
    | _ => cases h
  | .lst _, u, h => by cases u <;> cases h
  | .lsq _, u, h => by cases u <;> cases h
  | .obj _ _, u, h => by cases u <;> cases h
theorem conL_ok : ∀ (ds : List D) {us : List Value}, conL K us ds = true → ∃ vs, Vals vs us ∧ ∀ S, RpL K mg S ds vs
  | [], us, h => by
    cases us with
    | nil => exact ⟨[], .nil, fun _ => .nil⟩
    | cons => cases h
  | d :: ds, us, h => by
    cases us with
    | nil => cases h
    | cons u us =>
      unfold conL at h
      rw [Bool.and_eq_true] at h
      obtain ⟨v, r1, r2⟩ := conB_ok d h.1
      obtain ⟨vs, r3, r4⟩ := conL_ok ds h.2
      exact ⟨v :: vs, .cons r1 r3, fun S => .cons (r2 S) (r4 S)⟩
end
/-- a module's constant -/
def cnB (K : PySem.W.Frag) (p : Str × D) : Bool := match PySem.W.nsIn K mainGlobals p.1 with
  | some (some u) => conB K u p.2
  | _ => false
theorem cn_ok {h : Heap} (X : K.In h) (G : h.Ns mainGlobals mg) {x : Str} {d : D} (c : cnB K (x, d) = true) : Con K mg x d := by
  unfold cnB at c
  dsimp only at c
  split at c
  · rename_i u q
    obtain ⟨v, r1, r2⟩ := conB_ok (mg := mg) d c
    exact ⟨u, v, PySem.W.mg_of X G q, r1, r2⟩
  · cases c

/-! ### own exceptions -/
structure OwD where
  name : Str
  qual : Str
  params : Arguments
  body : List Stmt
  scope : Scope
  fs : List Str
abbrev FnY : Type := Option (Str × Str × Arguments × FuncBody × Scope × Addr × List Str × Addr)
def fnY (K : PySem.W.Frag) (x : Str) : FnY := match K.lookup (He.ma K (He.ga K x) "__init__") with
  | some ⟨_, _, .func fd, _⟩ => some (fd.name, fd.qualname, fd.params, fd.body, fd.scope, fd.globals, fd.closure.map (·.1), fd.builtins)
  | _ => none
def OwD.val (o : OwD) : FnY := some ("__init__", o.qual, o.params, .stmts o.body, o.scope, mainGlobals, ["__class__"], builtinsNs)
def clsB (K : PySem.W.Frag) (C : Addr) : Bool := match K.lookup C with
  | some ⟨.type t, _, .cls cd, sl⟩ => (match cd.mro, sl.toList with
    | .ref C' :: bm, [_, _, _, _, some (.builtin n), _] => decide (t = "type") && (C' == C && (decide (n = "ValueError.__new__") && (!cd.hasDel && (cd.hasDict && PySem.HandSPX.refsVE bm))))
    | _, _ => false)
  | _ => false
theorem clsB_ok {C : Addr} (h : clsB K C = true) : ∃ nm q N bs bm sn sub ab col dd k0 k1 k2 k3 k5, K.lookup C = some (excClassObj nm q C N bs bm true sn sub ab col dd k0 k1 k2 k3 k5 "ValueError.__new__") ∧ PySem.HandSPX.refsVE bm = true := by
  unfold clsB at h
  split at h
  · rename_i t dd cd sl ho
    split at h
    · rename_i C' bm k0 k1 k2 k3 n k5 hm hs
      simp only [Bool.and_eq_true, beq_iff_eq, Bool.not_eq_true', decide_eq_true_eq] at h
      obtain ⟨e1, e2, e3, hdel, hdct, hv⟩ := h
      subst e1 e2 e3
      obtain ⟨nm, bs, mro, ns, qn, hd, sn, sub, ab, col, del⟩ := cd
      dsimp only at hm hdel hdct
      subst hm hdel hdct
      have hsl : sl = #[k0, k1, k2, k3, some (.builtin "ValueError.__new__"), k5] := by
        obtain ⟨l⟩ := sl
        simp only at hs
        rw [hs]
      subst hsl
      exact ⟨nm, qn, ns, bs, bm, sn, sub, ab, col, dd, k0, k1, k2, k3, k5, ho, hv⟩
    · cases h
  · cases h
def cellB (K : PySem.W.Frag) (c C : Addr) : Bool := match K.lookup c with
  | some ⟨_, _, .cell (some (.ref D)), _⟩ => decide (D = C)
  | _ => false
def fileB (K : PySem.W.Frag) (c : Addr) (file : Str) : Bool := match K.lookup c with
  | some ⟨_, _, .fields vs, _⟩ => (match (vs[2]? : Option Value) with
    | some (Value.str f _) => file == f
    | _ => false)
  | _ => false
def iniB (K : PySem.W.Frag) (fI C : Addr) (qual file : Str) : Bool := match K.lookup fI with
  | some ⟨_, _, .func fd, _⟩ => (match fd.code, fd.closure, fd.defaults with
    | .ref cda, [(_, cc)], .none => PySem.W.codeIn K (.ref cda) qual && (fileB K cda file && cellB K cc C)
    | _, _, _ => false)
  | _ => false
def OwD.ok (K : PySem.W.Frag) (file : Str) (o : OwD) : Bool := (He.eqO (PySem.W.nsIn K mainGlobals o.name) (some (some (.ref (He.ga K o.name)))) && He.eqO (PySem.W.nsIn K mainGlobals "super") (some none)) &&
  (clsB K (He.ga K o.name) && (He.eqO (PySem.W.findIn K (.ref (He.ga K o.name)) "__setattr__") (some (some (.builtin "object.__setattr__"))) && (decide (PySem.W.subIn K (.ref (He.ga K o.name)) (.type "BaseException") = some true) && (decide (PySem.W.typeIn K (.ref (He.ga K o.name)) = some (.type "type")) && (PySem.W.keepIn K (.ref (He.ga K o.name)) &&
  ((o.fs.all fun f => He.eqO (PySem.W.findIn K (.ref (He.ga K o.name)) f) (some none)) && (He.eqO (PySem.W.findIn K (.ref (He.ga K o.name)) "__init__") (some (some (.ref (He.ma K (He.ga K o.name) "__init__")))) && (decide (PySem.W.typeIn K (.ref (He.ma K (He.ga K o.name) "__init__")) = some (.type "function")) && (iniB K (He.ma K (He.ga K o.name) "__init__") (He.ga K o.name) o.qual file &&
  (decide (PySem.W.ks_superIn K (He.ga K o.name) (He.ga K o.name) "__init__" = some (some (.builtin "ValueError.__init__"))) && (decide (PySem.W.mroIn K (He.ga K o.name) (.ref (He.ga K o.name)) = some true) && (decide (PySem.W.subIn K (.ref (He.ga K o.name)) (.type "ValueError") = some true) && He.eqO (PySem.W.nsIn K cStatics "thirdparty.any") (some none)))))))))))))
theorem OwD.own {o : OwD} {h : Heap} (X : K.In h) (G : h.Ns mainGlobals mg) (e : fnY K o.name = o.val) (c : o.ok K P.main.file = true) : mg "super" = none ∧ ∃ C fI, mg o.name = some (.ref C) ∧ OwnC P K C fI o.qual o.params o.body o.scope o.fs := by
  unfold OwD.ok at c
  obtain ⟨c0, c⟩ := He.ba c
  obtain ⟨c1, c2⟩ := He.ba c0
  obtain ⟨c3, c⟩ := He.ba c
  obtain ⟨c4, c⟩ := He.ba c
  obtain ⟨c5, c⟩ := He.ba c
  obtain ⟨c6, c⟩ := He.ba c
  obtain ⟨c7, c⟩ := He.ba c
  obtain ⟨c8, c⟩ := He.ba c
  obtain ⟨c9, c⟩ := He.ba c
  obtain ⟨c10, c⟩ := He.ba c
  obtain ⟨c11, c⟩ := He.ba c
  obtain ⟨c12, c⟩ := He.ba c
  obtain ⟨c13, c⟩ := He.ba c
  obtain ⟨c14, c15⟩ := He.ba c
  have fn : ∃ (oc kV doc pm ct : Value) (od an : Option Addr) (osl : Array (Option Value)) (cc cda : Addr), K.lookup (He.ma K (He.ga K o.name) "__init__") = some ⟨oc, od, .func (PySem.W.fnX "__init__" o.qual o.params o.body o.scope [("__class__", cc)] .none kV doc pm an (.ref cda) ct), osl⟩ ∧ PySem.W.codeIn K (.ref cda) o.qual = true ∧
    (∃ (cl : Value) (cd : Option Addr) (vs : Array Value) (sl : Array (Option Value)) (file : Str) (tf : Tok), K.lookup cda = some ⟨cl, cd, .fields vs, sl⟩ ∧ vs[2]? = some (.str file tf) ∧ ((P.main.file : Str) == file) = true) ∧
    ∃ (cl : Value) (cd : Option Addr) (sl : Array (Option Value)), K.lookup cc = some ⟨cl, cd, .cell (some (.ref (He.ga K o.name))), sl⟩ := by
    unfold iniB at c11
    unfold fnY at e
    split at c11
    · rename_i oc od fd osl q
      rw [q] at e
      obtain ⟨n1, n2, n3, n4, n5, n6, n7, n8, n9, n10, n11, n12, n13, n14, n15⟩ := fd
      have e2 : (some (n1, n2, n3, n4, n5, n6, n7.map (·.1), n15) : FnY) = some (("__init__" : Str), o.qual, o.params, FuncBody.stmts o.body, o.scope, mainGlobals, [("__class__" : Str)], builtinsNs) := e
      simp only [Option.some.injEq, Prod.mk.injEq] at e2
      obtain ⟨h1, h2, h3, h4, h5, h6, h7, h8⟩ := e2
      dsimp only at c11
      split at c11
      · rename_i cda y cc
        rw [Bool.and_eq_true, Bool.and_eq_true] at c11
        obtain ⟨k1, k2, k3⟩ := c11
        have h7 : [y] = [("__class__" : Str)] := h7
        cases h7
        subst h1 h2 h3 h4 h5 h6 h8
        refine ⟨oc, n9, n10, n11, n14, od, n12, osl, cc, cda, q, k1, ?_, ?_⟩
        · unfold fileB at k2
          split at k2
          · split at k2
            · exact ⟨_, _, _, _, _, _, by assumption, by assumption, k2⟩
            · cases k2
          · cases k2
        · unfold cellB at k3
          split at k3
          · have z := of_decide_eq_true k3
            subst z
            exact ⟨_, _, _, by assumption⟩
          · cases k3
      · cases c11
    · cases c11
  exact ⟨PySem.W.mg_none_of X G (He.eqO_ok c2), _, _, PySem.W.mg_of X G (He.eqO_ok c1), ⟨clsB_ok c3, He.eqO_ok c4, of_decide_eq_true c5, of_decide_eq_true c6, c7⟩, fun f hf => He.eqO_ok (List.all_eq_true.mp c8 f hf), He.eqO_ok c9, of_decide_eq_true c10, fn,
    of_decide_eq_true c12, of_decide_eq_true c13, of_decide_eq_true c14, He.eqO_ok c15⟩

def exB (K : PySem.W.Frag) (flds : List Str) (q : (Str × Str) × Bool) : Bool := (He.eqO (PySem.W.nsIn K mainGlobals q.1.1) (some (some (.ref (He.ga K q.1.1)))) && He.eqO (PySem.W.nsIn K mainGlobals q.1.2) (some (some (.ref (He.ga K q.1.2))))) &&
  (decide (PySem.W.exmOne K (.ref (He.ga K q.1.1)) (.ref (He.ga K q.1.2)) = some q.2) && (decide (PySem.W.kitOne K (.ref (He.ga K q.1.1)) (.ref (He.ga K q.1.2)) = some q.2) && (xfB K (He.ga K q.1.1) &&
  (He.eqO (PySem.W.findIn K (.ref (He.ga K q.1.1)) "__class__") (some (some (.builtin "object.__class__"))) && (He.eqO (PySem.W.specialIn K (.builtin "object.__class__") "__get__") (some (some (.builtin "getset_descriptor.__get__"))) &&
  (decide (PySem.W.takesIn K (.builtin "object.__class__") = some true) && (decide (PySem.W.mroIn K (He.ga K q.1.1) (.type "object") = some true) && flds.all fun f => He.eqO (PySem.W.findIn K (.ref (He.ga K q.1.1)) f) (some none))))))))
theorem ex_ok {h : Heap} (X : K.In h) (G : h.Ns mainGlobals mg) {flds : List Str} {y c : Str} {b : Bool} (z : exB K flds ((y, c), b) = true) : ∃ Cy Cc, mg y = some (.ref Cy) ∧ mg c = some (.ref Cc) ∧ PySem.W.exmOne K (.ref Cy) (.ref Cc) = some b ∧ PySem.W.kitOne K (.ref Cy) (.ref Cc) = some b ∧ XfC K Cy ∧ ExcC K Cy ∧ ∀ f ∈ flds, PySem.W.findIn K (.ref Cy) f = some none := by
  unfold exB at z
  dsimp only at z
  obtain ⟨z0, z⟩ := He.ba z
  obtain ⟨z1, z2⟩ := He.ba z0
  obtain ⟨z3, z⟩ := He.ba z
  obtain ⟨z4, z⟩ := He.ba z
  obtain ⟨z5, z⟩ := He.ba z
  obtain ⟨z6, z⟩ := He.ba z
  obtain ⟨z7, z⟩ := He.ba z
  obtain ⟨z8, z⟩ := He.ba z
  obtain ⟨z9, z10⟩ := He.ba z
  have xf := xfB_ok z5
  exact ⟨_, _, PySem.W.mg_of X G (He.eqO_ok z1), PySem.W.mg_of X G (He.eqO_ok z2), of_decide_eq_true z3, of_decide_eq_true z4, xf, ⟨xf.ga, xf.gg, xf.exC, xf.hdC, He.eqO_ok z6, He.eqO_ok z7, of_decide_eq_true z8, of_decide_eq_true z9⟩, fun f hf => He.eqO_ok (List.all_eq_true.mp z10 f hf)⟩
end

/-! ### dicts of the module -/
def entB (K : PySem.W.Frag) : List DictEntry → List (Str × D) → Bool
  | [], [] => true
  | e :: es, p :: kvs => (match e.key with
    | .str y _ => decide (y = p.1) && conB K e.val p.2
    | _ => false) && entB K es kvs
  | _, _ => false
def kdB (K : PySem.W.Frag) (t : Str × List (Str × D)) : Bool := He.eqO (PySem.W.nsIn K mainGlobals t.1) (some (some (.ref (He.ga K t.1)))) && (match K.lookup (He.ga K t.1) with
  | some ⟨_, _, .dict es _, _⟩ => entB K es.toList t.2
  | _ => false)
theorem ent_ok {K : PySem.W.Frag} {mg : Str → Option Value} : ∀ {es : List DictEntry} {kvs : List (Str × D)}, entB K es kvs = true → ∀ z, (es.any (·.refKey) = false) ∧ ((kvs.lookup z = none ∧ es.find? (·.key.isStr z) = none) ∨ ∃ d e v, kvs.lookup z = some d ∧ es.find? (·.key.isStr z) = some e ∧ RelV v e.val ∧ ∀ S, Rp K mg S d v)
  | [], [], _, z => ⟨rfl, .inl ⟨rfl, rfl⟩⟩
  | [], _ :: _, h, _ => by cases h
  | _ :: _, [], h, _ => by cases h
  | e :: es, (x, d) :: kvs, h, z => by
    unfold entB at h
    obtain ⟨h1, h2⟩ := He.ba h
    obtain ⟨i1, i2⟩ := ent_ok h2 z
    split at h1
    · rename_i y tk hk
      obtain ⟨h3, h4⟩ := He.ba h1
      have h3 := of_decide_eq_true h3
      dsimp only at h3 h4
      subst h3
      have k1 : e.refKey = false := by unfold DictEntry.refKey; rw [hk]
      refine ⟨by rw [List.any_cons, k1, i1]; rfl, ?_⟩
      have k2 : e.key.isStr z = (y == z) := by rw [hk]; rfl
      rw [List.lookup_cons, List.find?_cons, k2]
      by_cases hz : y = z
      · subst hz
        obtain ⟨v, r1, r2⟩ := conB_ok (mg := mg) d h4
        right
        refine ⟨d, e, v, ?_, ?_, r1, r2⟩
        · rw [beq_self_eq_true]
        · rw [beq_self_eq_true]
      · have b1 : (y == z) = false := beq_eq_false_iff_ne.mpr hz
        have b2 : (z == y) = false := beq_eq_false_iff_ne.mpr (Ne.symm hz)
        rw [b1, b2]
        exact i2
    · cases h1
theorem kd_ok {K : PySem.W.Frag} {mg : Str → Option Value} {w : World} {h : Heap} (X : K.In h) (G : h.Ns mainGlobals mg) {x : Str} {kvs : List (Str × D)} (c : kdB K (x, kvs) = true) (d : He.dicW K (He.ga K x) = some (He.keysIn w.params (kvs.map (·.1)))) : KdOk K w mg x kvs := by
  unfold kdB at c
  obtain ⟨c1, c2⟩ := He.ba c
  obtain ⟨es, n, kd⟩ := He.dicW_ok d
  refine ⟨_, es, n, PySem.W.mg_of X G (He.eqO_ok c1), kd, fun z => ?_⟩
  dsimp only at c2
  rw [kd.at_] at c2
  obtain ⟨i1, i2⟩ := ent_ok (mg := mg) c2 z
  unfold PySem.W.nsIn
  rw [kd.at_]
  dsimp only
  rcases i2 with ⟨e1, e2⟩ | ⟨d, e, v, e1, e2, e3, e4⟩
  · refine ⟨none, ?_, .inl ⟨e1, rfl⟩⟩
    rw [e2, i1]
    rfl
  · refine ⟨some e.val, ?_, .inr ⟨d, e.val, v, e1, rfl, e3, e4⟩⟩
    rw [e2]

/-! ### the Hook -/
structure Tb where
  fa : List He.Fa
  fn : List He.DefD
  ow : List OwD
  cn : List (Str × D)
  kd : List (Str × List (Str × D))
  exm : List ((Str × Str) × Bool)
  flds : List Str
  file : Str
def asX (g : Addr → Option Obj) : Nat → List Addr
  | 0 => [mainGlobals, cStatics]
  | n + 1 => He.growD g (asX g n)
abbrev AlP : Type := Bool × List He.FnW × List FnY × List (Option (List (Option (Str × Int))))
def obsP (T : Tb) (K : PySem.W.Frag) : AlP := ((T.fa.all fun f => f.ok K) && ((T.fn.all fun d => d.ok K) && ((T.ow.all fun o => o.ok K T.file) && ((T.cn.all fun c => cnB K c) && ((T.kd.all fun c => kdB K c) && T.exm.all fun q => exB K T.flds q)))), T.fn.map fun d => He.fnW K d.at_, T.ow.map fun o => fnY K o.name, T.kd.map fun t => He.dicW K (He.ga K t.1))
def valP (T : Tb) (w : World) : AlP := (true, T.fn.map He.DefD.val, T.ow.map OwD.val, T.kd.map fun t => some (He.keysIn w.params (t.2.map (·.1))))
def SaysP (T : Tb) (w : World) (K : PySem.W.Frag) : Prop := obsP T K = valP T w
def obsPG (n : Nat) (T : Tb) (g : Addr → Option Obj) : AlP := obsP T (He.frG g (asX g n))
def hookP (n : Nat) (T : Tb) : PySem.W.Hook where
  α := AlP
  obs := fun s => obsPG n T s.heap.get?
  val := fun w => valP T w
  says := fun w h => ∃ K : PySem.W.Frag, K.In h ∧ SaysP T w K
  of := fun _ _ e => ⟨_, He.frG_in, e⟩
  keeps := fun _ _ _ ⟨K, hK, c⟩ k => ⟨K, PySem.W.Frag.In.keeps hK k, c⟩
theorem obsPG_eq {n : Nat} {T : Tb} {g : Addr → Option Obj} {s : Shared} (h : ∀ a, g a = s.heap.get? a) : obsPG n T g = (hookP n T).obs s := by
  have e : g = s.heap.get? := funext h
  rw [e] <;> rfl
section
variable {T : Tb} {w : World} {K : PySem.W.Frag} {h : Heap} {mg : Str → Option Value}
theorem SaysP.all (c : SaysP T w K) : (T.fa.all fun f => f.ok K) = true ∧ (T.fn.all fun d => d.ok K) = true ∧ (T.ow.all fun o => o.ok K T.file) = true ∧ (T.cn.all fun c => cnB K c) = true ∧ (T.kd.all fun c => kdB K c) = true ∧ (T.exm.all fun q => exB K T.flds q) = true := by
  have c1 := congrArg (fun z : AlP => z.1) c
  obtain ⟨c2, c3⟩ := He.ba c1
  obtain ⟨c4, c5⟩ := He.ba c3
  obtain ⟨c6, c7⟩ := He.ba c5
  obtain ⟨c8, c9⟩ := He.ba c7
  obtain ⟨c10, c11⟩ := He.ba c9
  exact ⟨c2, c4, c6, c8, c10, c11⟩
theorem SaysP.fact (c : SaysP T w K) {f : He.Fa} (h : f ∈ T.fa) : f.ok K = true := List.all_eq_true.mp c.all.1 f h
theorem SaysP.def_ (c : SaysP T w K) {d : He.DefD} (i : Nat) (hi : T.fn[i]? = some d) (e1 : d.dfl = []) (e2 : d.kwd = []) : ∃ fd, FunD K d.name d.qual d.params d.body d.scope [] [] (He.fAd K d.at_) fd := by
  have e : T.fn.map (fun d => He.fnW K d.at_) = T.fn.map He.DefD.val := congrArg (fun z : AlP => z.2.1) c
  have e3 : (T.fn.map fun d => He.fnW K d.at_)[i]? = (T.fn.map He.DefD.val)[i]? := by rw [e]
  rw [List.getElem?_map, List.getElem?_map, hi] at e3
  obtain ⟨fd, F⟩ := He.DefD.funD (Option.some.inj e3) (List.all_eq_true.mp c.all.2.1 d (List.mem_of_getElem? hi))
  refine ⟨fd, ?_⟩
  have k1 : d.dvs K = [] := by unfold He.DefD.dvs; rw [e1]; rfl
  have k2 : d.kws K = [] := by unfold He.DefD.kws; rw [e2]; rfl
  rw [k1, k2] at F
  exact F
theorem SaysP.con (c : SaysP T w K) (X : K.In h) (G : h.Ns mainGlobals mg) {x : Str} {d : D} (i : (x, d) ∈ T.cn) : Con K mg x d := cn_ok X G (List.all_eq_true.mp c.all.2.2.2.1 _ i)
theorem SaysP.kd_ (c : SaysP T w K) (X : K.In h) (G : h.Ns mainGlobals mg) (i : Nat) {t : Str × List (Str × D)} (hi : T.kd[i]? = some t) : KdOk K w mg t.1 t.2 := by
  have e : (T.kd.map fun t => He.dicW K (He.ga K t.1)) = T.kd.map fun t => some (He.keysIn w.params (t.2.map (·.1))) := congrArg (fun z : AlP => z.2.2.2) c
  have e3 : (T.kd.map fun t => He.dicW K (He.ga K t.1))[i]? = (T.kd.map fun t => some (He.keysIn w.params (t.2.map (·.1))))[i]? := by rw [e]
  rw [List.getElem?_map, List.getElem?_map, hi] at e3
  exact kd_ok X G (List.all_eq_true.mp c.all.2.2.2.2.1 _ (List.mem_of_getElem? hi)) (Option.some.inj e3)
theorem SaysP.ow_ (c : SaysP T w K) {P : Program} (X : K.In h) (G : h.Ns mainGlobals mg) {o : OwD} (i : Nat) (hi : T.ow[i]? = some o) (hf : T.file = P.main.file) : mg "super" = none ∧ ∃ C fI, mg o.name = some (.ref C) ∧ OwnC P K C fI o.qual o.params o.body o.scope o.fs := by
  have e : T.ow.map (fun o => fnY K o.name) = T.ow.map OwD.val := congrArg (fun z : AlP => z.2.2.1) c
  have e3 : (T.ow.map fun o => fnY K o.name)[i]? = (T.ow.map OwD.val)[i]? := by rw [e]
  rw [List.getElem?_map, List.getElem?_map, hi] at e3
  exact OwD.own X G (Option.some.inj e3) (by rw [← hf]; exact List.all_eq_true.mp c.all.2.2.1 o (List.mem_of_getElem? hi))
theorem SaysP.exm_ (c : SaysP T w K) (X : K.In h) (G : h.Ns mainGlobals mg) {y z : Str} {b : Bool} (i : T.exm.lookup (y, z) = some b) : ∃ Cy Cc, mg y = some (.ref Cy) ∧ mg z = some (.ref Cc) ∧ PySem.W.exmOne K (.ref Cy) (.ref Cc) = some b ∧ PySem.W.kitOne K (.ref Cy) (.ref Cc) = some b ∧ XfC K Cy ∧ ExcC K Cy ∧ ∀ f ∈ T.flds, PySem.W.findIn K (.ref Cy) f = some none := by
  have key : ∀ {l : List ((Str × Str) × Bool)}, l.lookup (y, z) = some b → ((y, z), b) ∈ l := by
    intro l
    induction l with
    | nil => intro h; cases h
    | cons p l ih =>
      intro h
      obtain ⟨k, v⟩ := p
      rw [List.lookup_cons] at h
      split at h
      · rename_i q
        cases h
        rw [beq_iff_eq.mp q]
        exact List.mem_cons_self
      · exact List.mem_cons_of_mem _ (ih h)
  exact ex_ok X G (List.all_eq_true.mp c.all.2.2.2.2.2 _ (key i))
/-- the end: a law by its def's reading -/
theorem law_at {nloc : Nat} {p : XC → pS} {n : Nat} (pure : ∀ ns : List Int, ns.length ≤ n → semFn nloc 1 false p none [.lsq (ns.map D.int)] (fun z _ => z = .val (.bl true)) (fun _ _ => False)) :
    ∀ (H : Hp) (a : Addr) (ns : List Int), ns.length ≤ n → Only H → SqL K H a (ns.map V.int) → l2sp K mg (semFn nloc 1 false p) [.ref a] H (fun v _ => v = .bl true) fun _ _ _ => False := fun H a ns hn _ hS => by
  refine ⟨H, none, none, [.lsq (ns.map D.int)], [.ref a], _, _, Le.refl H, rfl, .cons (.lsq hS (RpL.of_ints ns)) .nil, trivial, pure ns hn, fun z m' v H' S' R _ hz => ?_, fun x m' cls d H' S' R _ _ hx => hx⟩
  subst hz
  have t := R.topV
  cases t
  rfl
end
end PL
set_option Elab.async false
set_option linter.all false
set_option maxRecDepth 100000
set_option maxHeartbeats 4000000
/-! PLR: defs that call themselves: the promise without fuel is empty. -/
namespace PL
open PySem PySem.Spec PyProof.Rows L2 PLX
@[irreducible] def semI : Nat → Nat → Bool → (XC → pS) → PSp := semFn
section
variable {P : Program} {w : World} {K : PySem.W.Frag} {mg : Str → Option Value} {base : Heap}
theorem has_bot {lev : Nat} {d : He.DefD} {ps : List Str} {nloc : Nat} {ref : Bool} {x : Str} (hd : ∃ fd, FunD K d.name d.qual d.params d.body d.scope [] [] (He.fAd K d.at_) fd) (hm : mg x = some (.ref (He.fAd K d.at_)))
    (hb : ∀ (kV doc pm : Value) (an : Option Addr) (cdv ct : Value) (us : List Value), us.length = ps.length → bindArgs (PySem.W.fnOf d.name d.qual d.params d.body d.scope .none kV doc pm an cdv ct) ⟨us, []⟩ = pure (ps.zip us)) : Has P w K mg base lev x ps.length nloc ref (fun _ => bS) := by
  obtain ⟨fd, F⟩ := hd
  refine ⟨_, fd, ps, hm, F.kp, F.bindsN hb, fun vs H Q E h => ?_, fun A outer s H args us vs Q E _ _ _ _ _ h => ?_⟩
  · obtain ⟨S, r, m, ds, ws, _, _, _, _, _, _, ⟨_, z⟩, _⟩ := h
    exact z.elim
  · obtain ⟨S, r, m, ds, ws, _, _, _, _, _, _, ⟨_, z⟩, _⟩ := h
    exact z.elim
end
end PL
set_option Elab.async false
set_option linter.all false
set_option maxRecDepth 100000
set_option maxHeartbeats 4000000
/-! PL16: tools for the plain part. -/
namespace PL
open PySem PySem.Spec PyProof.Rows L2 PLX

def isBor : Option (Option Sv) → Bool
  | some (some (.bor _)) => true
  | _ => false
theorem nb {o : Option (Option Sv)} (h : isBor o = false) : ∀ m, o ≠ some (some (.bor m)) := fun m e => by
  rw [e] at h
  cases h
theorem ifT {c : Bool} {A B : Prop} (h : c = true) (a : A) : if c = true then A else B := by rw [if_pos h]; exact a
theorem ifF {c : Bool} {A B : Prop} (h : c = false) (b : B) : if c = true then A else B := by rw [h, if_neg Bool.false_ne_true]; exact b
theorem if2 {c : Bool} {A B : Prop} (a : c = true → A) (b : c = false → B) : if c = true then A else B := by
  cases c
  · exact ifF rfl (b rfl)
  · exact ifT rfl (a rfl)
/-- a test by a proposition -/
theorem ifd {p A B : Prop} [Decidable p] (a : p → A) (b : ¬ p → B) : if (decide p) = true then A else B := by
  by_cases h : p
  · exact ifT (decide_eq_true h) (a h)
  · exact ifF (decide_eq_false h) (b h)
theorem kit_int_int : kitB "int" "int" = some true := by decide +kernel
theorem kit_bool_int : kitB "bool" "int" = some true := by decide +kernel
theorem kit_int_bool : kitB "int" "bool" = some false := by decide +kernel
theorem kit_bool_bool : kitB "bool" "bool" = some true := by decide +kernel
theorem kit_none_int : kitB "NoneType" "int" = some false := by decide +kernel
theorem kit_str_int : kitB "str" "int" = some false := by decide +kernel
theorem kit_tuple_int : kitB "tuple" "int" = some false := by decide +kernel
theorem kit_list_int : kitB "list" "int" = some false := by decide +kernel
theorem kit_none_tuple : kitB "NoneType" "tuple" = some false := by decide +kernel
theorem kit_int_tuple : kitB "int" "tuple" = some false := by decide +kernel
theorem kit_bool_tuple : kitB "bool" "tuple" = some false := by decide +kernel
theorem kit_str_tuple : kitB "str" "tuple" = some false := by decide +kernel
theorem kit_tuple_tuple : kitB "tuple" "tuple" = some true := by decide +kernel
theorem kit_list_tuple : kitB "list" "tuple" = some false := by decide +kernel
theorem kit_str_str : kitB "str" "str" = some true := by decide +kernel
theorem forL_ix {g : pG} {b : pS} {Q : pEnds} {ds : List D} (I : Nat → PEnv → Prop) {e : PEnv} (h0 : I 0 e)
    (step : ∀ (i : Nat) d e (N : PEnv → Prop), ds[i]? = some d → I i e → (∀ e', I (i + 1) e' → N e') → g (.val d) e fun e1 => b { nx := N, rt := Q.rt, bk := Q.nx, ct := N } e1) (fin : ∀ e, I ds.length e → Q.nx e) : forL g b ds Q e := by
  suffices ∀ (r : List D) (k : Nat) e, ds.drop k = r → k ≤ ds.length → I k e → forL g b r Q e from this ds 0 e rfl (Nat.zero_le _) h0
  intro r
  induction r with
  | nil =>
    intro k e hk hl hi
    have e1 : k = ds.length := by
      have := congrArg List.length hk
      rw [List.length_drop, List.length_nil] at this
      omega
    subst e1
    exact fin e hi
  | cons d r ih =>
    intro k e hk hl hi
    have hlt : k < ds.length := by
      have := congrArg List.length hk
      rw [List.length_drop, List.length_cons] at this
      omega
    have hd : ds[k]? = some d := by
      have := congrArg (fun l : List D => l[0]?) hk
      simp only [List.getElem?_drop, Nat.add_zero, List.getElem?_cons_zero] at this
      exact this
    have hr : ds.drop (k + 1) = r := by
      rw [← List.drop_drop, hk]
      rfl
    exact step k d e (forL g b r Q) hd hi fun e' h' => ih (k + 1) e' hr hlt h'
theorem lcL_ix {g : pG} {t : pT} {p : pE} {own : List Nat} {ds : List D} {P : List D → PEnv → Prop} (I : Nat → List D → PEnv → Prop) {e : PEnv} {acc0 : List D} (h0 : I 0 acc0 e)
    (step : ∀ (i : Nat) d acc e (N : List D → PEnv → Prop), ds[i]? = some d → I i acc e → (∀ acc' e', I (i + 1) acc' e' → N acc' e') →
      g (.val d) (wipeP e own) fun e1 => t e1 fun k e2 => if k = true then pF p e2 fun x e3 => acc.length < sizeLine ∧ N (acc ++ [x]) e3 else N acc e2) (fin : ∀ acc e, I ds.length acc e → P acc e) : lcL g t p own ds acc0 e P := by
  suffices ∀ (r : List D) (k : Nat) acc e, ds.drop k = r → k ≤ ds.length → I k acc e → lcL g t p own r acc e P from this ds 0 acc0 e rfl (Nat.zero_le _) h0
  intro r
  induction r with
  | nil =>
    intro k acc e hk hl hi
    have e1 : k = ds.length := by
      have := congrArg List.length hk
      rw [List.length_drop, List.length_nil] at this
      omega
    subst e1
    exact fin acc e hi
  | cons d r ih =>
    intro k acc e hk hl hi
    have hlt : k < ds.length := by
      have := congrArg List.length hk
      rw [List.length_drop, List.length_cons] at this
      omega
    have hd : ds[k]? = some d := by
      have := congrArg (fun l : List D => l[0]?) hk
      simp only [List.getElem?_drop, Nat.add_zero, List.getElem?_cons_zero] at this
      exact this
    have hr : ds.drop (k + 1) = r := by
      rw [← List.drop_drop, hk]
      rfl
    exact step k d acc e (fun acc e => lcL g t p own r acc e P) hd hi fun acc' e' h' => ih (k + 1) acc' e' hr hlt h'
theorem sl {n : Nat} (h : n ≤ 1000) : n ≤ sizeLine := Nat.le_trans h (by decide)
/-- small -/
def Sm (k : Nat) (x : Int) : Prop := x.natAbs < 2 ^ k
theorem Sm.log {k : Nat} {x : Int} (h : Sm k x) (hk : 0 < k) : x.natAbs.log2 < k := by
  by_cases z : x.natAbs = 0
  · rw [z]; simpa using hk
  · exact (Nat.log2_lt z).mpr h
theorem Sm.mono {j k : Nat} {x : Int} (h : Sm j x) (hj : j ≤ k) : Sm k x := Nat.lt_of_lt_of_le h (Nat.pow_le_pow_right (by decide) hj)
theorem Sm.mul {j k : Nat} {x y : Int} (hx : Sm j x) (hy : Sm k y) : Sm (j + k) (x * y) := by
  unfold Sm at *
  rw [Int.natAbs_mul, Nat.pow_add]
  exact Nat.mul_lt_mul'' hx hy
theorem Sm.add {k : Nat} {x y : Int} (hx : Sm k x) (hy : Sm k y) : Sm (k + 1) (x + y) := by
  unfold Sm at *
  have := Int.natAbs_add_le x y
  rw [Nat.pow_succ]
  omega
theorem Sm.neg {k : Nat} {x : Int} (hx : Sm k x) : Sm k (-x) := by
  unfold Sm at *
  rw [Int.natAbs_neg]
  exact hx
theorem Sm.sub {k : Nat} {x y : Int} (hx : Sm k x) (hy : Sm k y) : Sm (k + 1) (x - y) := hx.add hy.neg
theorem Sm.cmul {j k : Nat} {x y : Int} (hx : Sm j x) (hy : Sm k y) (hj : 0 < j) (hk : 0 < k) (h : j + k ≤ 1000000) : CMul x y ∨ CMulW x y := by
  refine .inr ?_
  have h1 := hx.log hj
  have h2 := hy.log hk
  unfold CMulW
  omega
theorem cml {x y : Int} (h : -(2 ^ 64) < x ∧ x < 2 ^ 64) : CMul x y ∨ CMulW x y := .inl (.inl h)
theorem cmr {x y : Int} (h : -(2 ^ 64) < y ∧ y < 2 ^ 64) : CMul x y ∨ CMulW x y := .inl (.inr h)
end PL
namespace PL
open PySem PySem.Spec PyProof.Rows L2 PLX
/-- the slots as they stand -/
theorem norm {N : PEnv → Prop} {e : PEnv} (e' : PEnv) (h : e = e') (k : N e') : N e := h ▸ k
abbrev vi (x : Int) : Option Sv := some (.val (.int x))
abbrev vd (x : D) : Option Sv := some (.val x)
abbrev v0 : Option Sv := none
end PL
namespace PL
open PySem PySem.Spec PyProof.Rows L2 PLX
theorem norml {g : pG} {t : pT} {p : pE} {own : List Nat} {ds acc : List D} {e : PEnv} {P : List D → PEnv → Prop} (e' : PEnv) (h : e = e') (k : lcL g t p own ds acc e' P) : lcL g t p own ds acc e P := h ▸ k
abbrev vo (ds : List D) : Option Sv := some (.own (.lst ds))
end PL
set_option Elab.async false
set_option linter.all false
set_option maxRecDepth 100000
set_option maxHeartbeats 4000000
namespace K90
open PySem PySem.Spec PyProof.Rows L2 PL PLX
def top (i : Nat) : Stmt := PySem.Challenge.pw_shelfmill_k90_formula_texts_whole.main.body.getD i (.Pass ⟨0, 0, 0, 0⟩)
def exmT : List ((Str × Str) × Bool) := [(("BadArgument", "BadArgument"), true), (("BadArgument", "BadText"), false), (("BadArgument", "ShelfmillError"), true), (("BadText", "BadArgument"), false), (("BadText", "BadText"), true), (("BadText", "ShelfmillError"), true), (("ShelfmillError", "ShelfmillError"), true)]
def errT : List (Str × List Str) := [("BadArgument", ["reason"]), ("BadText", ["line", "reason"])]
def fldT : List Str := ["line", "reason"]
def freeT : List Str := ["abs", "all", "int", "isinstance", "len", "list", "max", "range", "repr", "str", "tuple"]
def c_NUMBERS : List (Str × D) := [("most", (.int 2)), ("rest", (.int 3))]
def c_FIGURES : D := (.str "0123456789")
def c_MOST_FIGURES : D := (.int 60)
def c_PARTS : List (Str × D) := [("not", (.int 1)), ("and", (.int 2)), ("or", (.int 2))]
def c_MOST_DEPTH : D := (.int 8)
def c_MOST_SIGNS : D := (.int 20000)
def conT : List (Str × D) := [("FIGURES", c_FIGURES), ("MOST_FIGURES", c_MOST_FIGURES), ("MOST_DEPTH", c_MOST_DEPTH), ("MOST_SIGNS", c_MOST_SIGNS)]
def kdT : List (Str × List (Str × D)) := [("NUMBERS", c_NUMBERS), ("PARTS", c_PARTS)]

/- row_words(row): 0 row, 1 number -/
def b_row_words (xc : XC) : pS :=
  (sRet (pLc (iVal (pVar 0)) (gP 1) pYes (pBlt .str_ (pLast (pPk 1))) [1]))
@[irreducible] def sp_row_words : PSp := semFn 1 1 false b_row_words

/- formula_words(formula): 0 formula, 1 words, 2 part -/
def b_formula_words : Nat → XC → pS
  | 0 => fun _ => bS
  | k + 1 => fun xc =>
  (sSeq (sIf (pB (pInK false c_NUMBERS (pIxN 0 (pF (pC (.int 0))))))
    (sRet (pOp (opB .Add) (pLst (pCons (pIxN 0 (pF (pC (.int 0)))) pNil)) (pF (pCall sp_row_words xc (pCons (pSlN 0 (some (pC (.int 1))) none) pNil)))))
    sNext)
  (sSeq (sAsg (pLst (pCons (pIxN 0 (pF (pC (.int 0)))) pNil)) (gP 1))
  (sSeq (pFor (iVal (pSlN 0 (some (pC (.int 1))) none)) (gP 2)
    (sDrop (pExtend 1 (pCall (semI 2 1 false (b_formula_words k)) xc (pCons (pVar 2) pNil)))))
  (sRet (pMove 1)))))
@[irreducible] def sp_formula_words : PSp := semI 2 1 false (b_formula_words 16)

/- told_formula(formula): 0 formula -/
def b_told_formula (xc : XC) : pS :=
  (sRet (pJoin (pC (.str " ")) (pF (pCall sp_formula_words xc (pCons (pVar 0) pNil)))))
@[irreducible] def sp_told_formula : PSp := semFn 0 1 false b_told_formula

/- _law_read_by_hand(words): 0 words, 1 values, 2 word, 3 part, 4 k -/
def b__law_read_by_hand (xc : XC) : pS :=
  (sSeq (sAsg (pLst pNil) (gP 1))
  (sSeq (pFor (iVal (pRevL (pPk 0))) (gP 2)
    (sIf (pB (pOp (cmpB .In) (pVar 2) (pF (pTup (pCons (pC (.str "most")) (pCons (pC (.str "rest")) (pCons (pC (.str "not")) (pCons (pC (.str "and")) (pCons (pC (.str "or")) pNil)))))))))
      (sSeq (sAsg (pTup (pCons (pVar 2) pNil)) (gP 3))
      (sSeq (pFor (iRange1 (pOp (opB .Add) (pOp (opB .Add) (pC (.int 1)) (pF (pBlt .int_ (pLast (pF (pOp (cmpB .NotEq) (pVar 2) (pF (pC (.str "not"))))))))) (pF (pBlt .int_ (pLast (pF (pOp (cmpB .Eq) (pVar 2) (pF (pC (.str "rest")))))))))) (gP 4)
        (sAsg (pOp (opB .Add) (pVar 3) (pF (pTup (pCons (pPop 1) pNil)))) (gP 3)))
      (sDrop (pAppend 1 (pVar 3)))))
      (sDrop (pAppend 1 (pBlt .int_ (pLast (pPk 2)))))))
  (sRet (pIxN 1 (pF (pC (.int 0)))))))
@[irreducible] def sp__law_read_by_hand : PSp := semFn 4 1 false b__law_read_by_hand

/- is_figures(word): 0 word, 1 sign -/
def b_is_figures (xc : XC) : pS :=
  (sSeq (sIf (pOrT (pB (pOp (cmpB .Eq) (pBlt .len (pLast (pPk 0))) (pF (pC (.int 0))))) (pB (pOp (cmpB .Gt) (pBlt .len (pLast (pPk 0))) (pF (pC c_MOST_FIGURES)))))
    (sRet (pC (.bl false)))
    sNext)
  (sSeq (pFor (iVal (pVar 0)) (gP 1)
    (sIf (pB (pOp (cmpB .NotIn) (pVar 1) (pF (pC c_FIGURES))))
      (sRet (pC (.bl false)))
      sNext))
  (sRet (pOrV (pOp (cmpB .Eq) (pVar 0) (pF (pC (.str "0")))) (pOp (cmpB .NotEq) (pIxN 0 (pF (pC (.int 0)))) (pF (pC (.str "0"))))))))
@[irreducible] def sp_is_figures : PSp := semFn 1 1 false b_is_figures

/- count_in(word, line): 0 word, 1 line -/
def b_count_in (xc : XC) : pS :=
  (sSeq (sIf (pNotT (pB (pCall sp_is_figures xc (pCons (pVar 0) pNil))))
    (sRaise "BadText" ["line", "reason"] (pCons (pVar 1) (pCons (pC (.str "number")) pNil)) xc)
    sNext)
  (sRet (pBlt .int_ (pLast (pPk 0)))))
@[irreducible] def sp_count_in : PSp := semFn 0 2 false b_count_in

/- word_at(words, place): 0 words, 1 place -/
def b_word_at (xc : XC) : pS :=
  (sSeq (sIf (pB (pOp (cmpB .Eq) (pVar 1) (pF (pBlt .len (pLast (pPk 0))))))
    (sRaise "BadText" ["line", "reason"] (pCons (pC (.int 1)) (pCons (pC (.str "length")) pNil)) xc)
    sNext)
  (sRet (pIxN 0 (pPk 1))))
@[irreducible] def sp_word_at : PSp := semFn 0 2 false b_word_at

/- atom_in(words, place): 0 words, 1 place, 2 many, 3 numbers, 4 further -/
def b_atom_in (xc : XC) : pS :=
  (sSeq (sAsg (pIxK c_NUMBERS (pF (pIxN 0 (pPk 1)))) (gP 2))
  (sSeq (sAsg (pLst pNil) (gP 3))
  (sSeq (pFor (iRange2 (pOp (opB .Add) (pVar 1) (pF (pC (.int 1)))) (pOp (opB .Add) (pOp (opB .Add) (pVar 1) (pF (pC (.int 1)))) (pPk 2))) (gP 4)
    (sDrop (pAppend 3 (pCall sp_count_in xc (pCons (pCall sp_word_at xc (pCons (pVar 0) (pCons (pVar 4) pNil))) (pCons (pC (.int 1)) pNil))))))
  (sRet (pTup (pCons (pOp (opB .Add) (pTup (pCons (pIxN 0 (pPk 1)) pNil)) (pF (pBlt .tuple_ (pLast (pPk 3))))) (pCons (pOp (opB .Add) (pOp (opB .Add) (pVar 1) (pF (pC (.int 1)))) (pPk 2)) pNil)))))))
@[irreducible] def sp_atom_in : PSp := semFn 3 2 false b_atom_in

/- formula_in(words, place, depth): 0 words, 1 place, 2 depth, 3 word, 4 parts, 5 behind, 6 turn, 7 part -/
def b_formula_in : Nat → XC → pS
  | 0 => fun _ => bS
  | k + 1 => fun xc =>
  (sSeq (sAsg (pCall sp_word_at xc (pCons (pVar 0) (pCons (pVar 1) pNil))) (gP 3))
  (sSeq (sIf (pB (pOp (cmpB .Gt) (pVar 2) (pF (pC c_MOST_DEPTH))))
    (sRaise "BadText" ["line", "reason"] (pCons (pC (.int 1)) (pCons (pC (.str "depth")) pNil)) xc)
    sNext)
  (sSeq (sIf (pB (pInK false c_NUMBERS (pVar 3)))
    (sRet (pCall sp_atom_in xc (pCons (pVar 0) (pCons (pVar 1) pNil))))
    sNext)
  (sSeq (sIf (pB (pInK true c_PARTS (pVar 3)))
    (sRaise "BadText" ["line", "reason"] (pCons (pC (.int 1)) (pCons (pC (.str "word")) pNil)) xc)
    sNext)
  (sSeq (sAsg (pLst pNil) (gP 4))
  (sSeq (sAsg (pOp (opB .Add) (pVar 1) (pF (pC (.int 1)))) (gP 5))
  (sSeq (pFor (iRange1 (pIxK c_PARTS (pPk 3))) (gP 6)
    (sSeq (sAsg (pCall (semI 5 3 false (b_formula_in k)) xc (pCons (pVar 0) (pCons (pVar 5) (pCons (pOp (opB .Add) (pVar 2) (pF (pC (.int 1)))) pNil)))) (gTL 2 (gsCons (gP 7) (gsCons (gP 5) gsNil))))
    (sDrop (pAppend 4 (pVar 7)))))
  (sRet (pTup (pCons (pOp (opB .Add) (pTup (pCons (pVar 3) pNil)) (pF (pBlt .tuple_ (pLast (pPk 4))))) (pCons (pVar 5) pNil)))))))))))
@[irreducible] def sp_formula_in : PSp := semI 5 3 false (b_formula_in 11)

/- read_formula(text): 0 text, 1 words, 2 formula, 3 behind -/
def b_read_formula (xc : XC) : pS :=
  (sSeq (sIf (pOrT (pNotT (pB (pIsi "str" (pPk 0)))) (pB (pOp (cmpB .Gt) (pBlt .len (pLast (pPk 0))) (pF (pC c_MOST_SIGNS)))))
    (sRaise "BadText" ["line", "reason"] (pCons (pC (.int 0)) (pCons (pC (.str "text")) pNil)) xc)
    sNext)
  (sSeq (sAsg (pSplit (pVar 0) (pC (.str " "))) (gP 1))
  (sSeq (sAsg (pCall sp_formula_in xc (pCons (pVar 1) (pCons (pC (.int 0)) (pCons (pC (.int 1)) pNil)))) (gTL 2 (gsCons (gP 2) (gsCons (gP 3) gsNil))))
  (sSeq (sIf (pB (pOp (cmpB .Lt) (pVar 3) (pF (pBlt .len (pLast (pPk 1))))))
    (sRaise "BadText" ["line", "reason"] (pCons (pC (.int 1)) (pCons (pC (.str "length")) pNil)) xc)
    sNext)
  (sRet (pMove 2))))))
@[irreducible] def sp_read_formula : PSp := semFn 3 1 false b_read_formula

/- _law_read(text): 0 text, 1 found, 2 raised -/
def b__law_read (xc : XC) : pS :=
  (sSeq (sTryAs 2 (fun y => exmT.lookup (y, ("ShelfmillError" : Str))) (fun xc' =>
    (sAsg (pCall sp_read_formula xc' (pCons (pVar 0) pNil)) (gP 1)))
    (sSeq (sIf (pOrT (pNotT (pB (pIsX 2 fun c => exmT.lookup (c, ("BadText" : Str))))) (pB (pIsX 2 fun c => exmT.lookup (c, ("BadArgument" : Str)))))
      (sRet (pTup (pCons (pC (.str "other")) (pCons (pC (.int 0)) (pCons (pC (.str "")) pNil)))))
      sNext)
    (sRet (pTup (pCons (pC (.str "bad")) (pCons (pXf 2 "line") (pCons (pXf 2 "reason") pNil)))))) xc)
  (sRet (pTup (pCons (pC (.str "read")) (pCons (pVar 1) (pCons (pC (.str "")) pNil))))))
@[irreducible] def sp__law_read : PSp := semFn 2 1 false b__law_read

/- _law_is_figures(word): 0 word, 1 sign -/
def b__law_is_figures (xc : XC) : pS :=
  (sSeq (sIf (pOrT (pB (pOp (cmpB .Eq) (pBlt .len (pLast (pPk 0))) (pF (pC (.int 0))))) (pOrT (pB (pOp (cmpB .Gt) (pBlt .len (pLast (pPk 0))) (pF (pC (.int 60))))) (pNotT (pB (pBlt .all_ (pLast (pF (pLc (iVal (pVar 0)) (gP 1) pYes (pOp (cmpB .In) (pVar 1) (pF (pC (.str "0123456789")))) [1]))))))))
    (sRet (pC (.bl false)))
    sNext)
  (sRet (pOrV (pOp (cmpB .Eq) (pVar 0) (pF (pC (.str "0")))) (pOp (cmpB .NotEq) (pIxN 0 (pF (pC (.int 0)))) (pF (pC (.str "0")))))))
@[irreducible] def sp__law_is_figures : PSp := semFn 1 1 false b__law_is_figures

/- _law_due(words): 0 words, 1 waiting, 2 place, 3 level, 4 word -/
def b__law_due (xc : XC) : pS :=
  (sSeq (sAsg (pLst (pCons (pC (.int 1)) pNil)) (gP 1))
  (sSeq (sAsg (pC (.int 0)) (gP 2))
  (sSeq (pWhile (pB (pOp (cmpB .Gt) (pBlt .len (pLast (pPk 1))) (pF (pC (.int 0)))))
    (sSeq (sAsg (pPop 1) (gP 3))
    (sSeq (sIf (pB (pOp (cmpB .Eq) (pVar 2) (pF (pBlt .len (pLast (pPk 0))))))
      (sRet (pC (.str "length")))
      sNext)
    (sSeq (sAsg (pIxN 0 (pPk 2)) (gP 4))
    (sSeq (sAsg (pOp (opB .Add) (pVar 2) (pF (pC (.int 1)))) (gP 2))
    (sIf (pB (pOp (cmpB .Eq) (pVar 3) (pF (pC (.int 0)))))
      (sIf (pNotT (pB (pCall sp__law_is_figures xc (pCons (pVar 4) pNil))))
        (sRet (pC (.str "number")))
        sNext)
      (sIf (pB (pOp (cmpB .Gt) (pVar 3) (pF (pC (.int 8)))))
        (sRet (pC (.str "depth")))
        (sIf (pB (pOp (cmpB .Eq) (pVar 4) (pF (pC (.str "not")))))
          (sAsg (pOp (opB .Add) (pVar 1) (pF (pLst (pCons (pOp (opB .Add) (pVar 3) (pF (pC (.int 1)))) pNil)))) (gP 1))
          (sIf (pB (pOp (cmpB .In) (pVar 4) (pF (pTup (pCons (pC (.str "and")) (pCons (pC (.str "or")) pNil))))))
            (sAsg (pOp (opB .Add) (pVar 1) (pF (pLst (pCons (pOp (opB .Add) (pVar 3) (pF (pC (.int 1)))) (pCons (pOp (opB .Add) (pVar 3) (pF (pC (.int 1)))) pNil))))) (gP 1))
            (sIf (pB (pOp (cmpB .In) (pVar 4) (pF (pTup (pCons (pC (.str "most")) (pCons (pC (.str "rest")) pNil))))))
              (sAsg (pOp (opB .Add) (pVar 1) (pF (pOp (opB .Mult) (pLst (pCons (pC (.int 0)) pNil)) (pF (pOp (opB .Add) (pC (.int 2)) (pF (pBlt .int_ (pLast (pF (pOp (cmpB .Eq) (pVar 4) (pF (pC (.str "rest"))))))))))))) (gP 1))
              (sRet (pC (.str "word")))))))))))))
  (sSeq (sIf (pB (pOp (cmpB .Lt) (pVar 2) (pF (pBlt .len (pLast (pPk 0))))))
    (sRet (pC (.str "length")))
    sNext)
  (sRet (pC (.str "")))))))
@[irreducible] def sp__law_due : PSp := semFn 4 1 false b__law_due

/- _law_right(words): 0 words, 1 text, 2 due, 3 found, 4 whole -/
def b__law_right (xc : XC) : pS :=
  (sSeq (sAsg (pJoin (pC (.str " ")) (pPk 0)) (gP 1))
  (sSeq (sAsg (pCall sp__law_due xc (pCons (pVar 0) pNil)) (gP 2))
  (sSeq (sAsg (pCall sp__law_read xc (pCons (pVar 1) pNil)) (gP 3))
  (sSeq (sIf (pB (pOp (cmpB .NotEq) (pVar 2) (pF (pC (.str "")))))
    (sRet (pAndV (pOp (cmpB .Eq) (pVar 3) (pF (pTup (pCons (pC (.str "bad")) (pCons (pC (.int 1)) (pCons (pVar 2) pNil)))))) (pOp (cmpB .Eq) (pCall sp__law_read xc (pCons (pVar 1) pNil)) (pPk 3))))
    sNext)
  (sSeq (sAsg (pCall sp__law_read_by_hand xc (pCons (pVar 0) pNil)) (gP 4))
  (sSeq (sIf (pOrT (pB (pOp (cmpB .NotEq) (pIxN 3 (pF (pC (.int 0)))) (pF (pC (.str "read"))))) (pOrT (pB (pOp (cmpB .NotEq) (pIxN 3 (pF (pC (.int 1)))) (pPk 4))) (pB (pOp (cmpB .NotEq) (pBlt .repr_ (pLast (pF (pIxN 3 (pF (pC (.int 1))))))) (pF (pBlt .repr_ (pLast (pPk 4))))))))
    (sRet (pC (.bl false)))
    sNext)
  (sRet (pOp (cmpB .Eq) (pCall sp_told_formula xc (pCons (pIxN 3 (pF (pC (.int 1)))) pNil)) (pPk 1)))))))))
@[irreducible] def sp__law_right : PSp := semFn 4 1 false b__law_right

/- _law_draw(d, many): 0 d, 1 many, 2 found, 3 size, 4 cell -/
def b__law_draw (xc : XC) : pS :=
  (sSeq (sIf (pB (pOp (cmpB .Gt) (pIxN 0 (pF (pC (.int 2)))) (pF (pC (.int 0)))))
    (sSeq (sAsg (pIxN 0 (pF (pC (.int 2)))) (gP 2))
    (sSeq (sAsg (pOp (opB .FloorDiv) (pVar 2) (pPk 1)) (gIx 0 (pC (.int 2))))
    (sRet (pOp (opB .Mod) (pBlt .int_ (pLast (pPk 2))) (pPk 1)))))
    sNext)
  (sSeq (sAsg (pC (.int 0)) (gP 3))
  (sSeq (sIf (pB (pOp (cmpB .Lt) (pIxN 0 (pF (pC (.int 1)))) (pF (pBlt .len (pLast (pF (pIxN 0 (pF (pC (.int 0))))))))))
    (sSeq (sAsg (pOp itemB (pIxN 0 (pF (pC (.int 0)))) (pF (pIxN 0 (pF (pC (.int 1)))))) (gP 4))
    (sAsg (pOp (opB .Add) (pOp (opB .Mult) (pC (.int 2)) (pF (pBlt .abs (pLast (pPk 4))))) (pF (pBlt .int_ (pLast (pF (pOp (cmpB .Lt) (pVar 4) (pF (pC (.int 0))))))))) (gP 3)))
    sNext)
  (sSeq (sAugIx 0 (pC (.int 1)) (pC (.int 1)))
  (sSeq (sIf (pB (pOp (cmpB .GtE) (pVar 3) (pF (pOp (opB .Mult) (pC (.int 2)) (pF (pOp (opB .Pow) (pC (.int 10)) (pF (pC (.int 18)))))))))
    (sSeq (sAsg (pOp (opB .Mod) (pBlt .int_ (pLast (pF (pOp (opB .FloorDiv) (pVar 3) (pF (pC (.int 2))))))) (pF (pOp (opB .LShift) (pC (.int 1)) (pF (pC (.int 6000)))))) (gP 2))
    (sSeq (sAsg (pOp (opB .FloorDiv) (pVar 2) (pPk 1)) (gIx 0 (pC (.int 2))))
    (sRet (pOp (opB .Mod) (pBlt .int_ (pLast (pPk 2))) (pPk 1)))))
    sNext)
  (sSeq (sAsg (pOp (opB .Mod) (pBlt .int_ (pLast (pF (pOp (opB .Add) (pOp (opB .Add) (pOp (opB .Add) (pOp (opB .Mult) (pIxN 0 (pF (pC (.int 3)))) (pF (pC (.int 48271)))) (pF (pOp (opB .Mult) (pOp (opB .Mod) (pBlt .int_ (pLast (pPk 3))) (pF (pC (.int 2147483629)))) (pF (pC (.int 16807)))))) (pF (pOp (opB .Mult) (pIxN 0 (pF (pC (.int 1)))) (pF (pC (.int 69621)))))) (pF (pC (.int 11))))))) (pF (pC (.int 2147483647)))) (gIx 0 (pC (.int 3))))
  (sRet (pOp (opB .Mod) (pBlt .int_ (pLast (pF (pOp (opB .FloorDiv) (pIxN 0 (pF (pC (.int 3)))) (pF (pC (.int 16))))))) (pPk 1)))))))))
@[irreducible] def sp__law_draw : PSp := semFn 3 2 true b__law_draw

/- _law_long_right(d): 0 d, 1 text -/
def b__law_long_right (xc : XC) : pS :=
  (sSeq (sAsg (pOp (opB .Add) (pC (.str "most 0 ")) (pF (pBlt .str_ (pLast (pF (pCallR sp__law_draw xc 0 (pCons (pC (.int 12)) pNil))))))) (gP 1))
  (sSeq (sAsg (pOp (opB .Add) (pVar 1) (pF (pOp (opB .Mult) (pC (.str " ")) (pF (pOp (opB .Sub) (pC (.int 20000)) (pF (pBlt .len (pLast (pPk 1))))))))) (gP 1))
  (sRet (pAndV (pOp (cmpB .Eq) (pCall sp__law_read xc (pCons (pVar 1) pNil)) (pF (pTup (pCons (pC (.str "bad")) (pCons (pC (.int 1)) (pCons (pC (.str "length")) pNil)))))) (pOp (cmpB .Eq) (pCall sp__law_read xc (pCons (pOp (opB .Add) (pVar 1) (pF (pC (.str " ")))) pNil)) (pF (pTup (pCons (pC (.str "bad")) (pCons (pC (.int 0)) (pCons (pC (.str "text")) pNil))))))))))
@[irreducible] def sp__law_long_right : PSp := semFn 1 1 true b__law_long_right

/- _law_pick(d, row): 0 d, 1 row -/
def b__law_pick (xc : XC) : pS :=
  (sRet (pIxN 1 (pF (pCallR sp__law_draw xc 0 (pCons (pBlt .len (pLast (pPk 1))) pNil)))))
@[irreducible] def sp__law_pick : PSp := semFn 0 2 true b__law_pick

/- _law_spoilt_once(d, words): 0 d, 1 words, 2 way, 3 place, 4 others, 5 found, 6 second -/
def b__law_spoilt_once (xc : XC) : pS :=
  (sSeq (sAsg (pCallR sp__law_draw xc 0 (pCons (pC (.int 7)) pNil)) (gP 2))
  (sSeq (sAsg (pCallR sp__law_draw xc 0 (pCons (pBlt .len (pLast (pPk 1))) pNil)) (gP 3))
  (sSeq (sAsg (pLst (pCons (pC (.str "most")) (pCons (pC (.str "rest")) (pCons (pC (.str "not")) (pCons (pC (.str "and")) (pCons (pC (.str "or")) (pCons (pC (.str "mos")) (pCons (pC (.str "Most")) (pCons (pC (.str "NOT")) (pCons (pC (.str "x")) (pCons (pC (.str "")) (pCons (pC (.str "00")) (pCons (pC (.str "07")) (pCons (pC (.str "-1")) (pCons (pC (.str "-0")) (pCons (pC (.str "+1")) (pCons (pC (.str "1_0")) pNil))))))))))))))))) (gP 4))
  (sSeq (sAsg (pOp (opB .Add) (pVar 4) (pF (pLst (pCons (pC (.str "5")) (pCons (pC (.str "0")) (pCons (pC (.str "1.")) (pCons (pC (.str "0x1")) (pCons (pOp (opB .Mult) (pC (.str "1")) (pF (pC (.int 60)))) (pCons (pOp (opB .Mult) (pC (.str "1")) (pF (pC (.int 61)))) (pCons (pOp (opB .Add) (pC (.str "0")) (pF (pOp (opB .Mult) (pC (.str "1")) (pF (pC (.int 59)))))) (pCons (pOp (opB .Mult) (pC (.str "9")) (pF (pC (.int 60)))) pNil))))))))))) (gP 4))
  (sSeq (sIf (pAndT (pB (pOp (cmpB .Eq) (pVar 2) (pF (pC (.int 0))))) (pB (pOp (cmpB .Gt) (pBlt .len (pLast (pPk 1))) (pF (pC (.int 1))))))
    (sRet (pOp (opB .Add) (pSlN 1 none (some (pVar 3))) (pF (pSlN 1 (some (pOp (opB .Add) (pVar 3) (pF (pC (.int 1))))) none))))
    sNext)
  (sSeq (sIf (pB (pOp (cmpB .Eq) (pVar 2) (pF (pC (.int 1)))))
    (sRet (pOp (opB .Add) (pSlN 1 none (some (pOp (opB .Add) (pVar 3) (pF (pC (.int 1)))))) (pF (pSlN 1 (some (pVar 3)) none))))
    sNext)
  (sSeq (sIf (pB (pOp (cmpB .Eq) (pVar 2) (pF (pC (.int 2)))))
    (sRet (pOp (opB .Add) (pOp (opB .Add) (pSlN 1 none (some (pVar 3))) (pF (pLst (pCons (pCallR sp__law_pick xc 0 (pCons (pVar 4) pNil)) pNil)))) (pF (pSlN 1 (some (pVar 3)) none))))
    sNext)
  (sSeq (sIf (pB (pOp (cmpB .Eq) (pVar 2) (pF (pC (.int 3)))))
    (sRet (pOp (opB .Add) (pVar 1) (pF (pLst (pCons (pCallR sp__law_pick xc 0 (pCons (pVar 4) pNil)) pNil)))))
    sNext)
  (sSeq (sIf (pB (pOp (cmpB .Eq) (pVar 2) (pF (pC (.int 4)))))
    (sSeq (sAsg (pBlt .list_ (pLast (pPk 1))) (gP 5))
    (sSeq (sAsg (pCallR sp__law_draw xc 0 (pCons (pBlt .len (pLast (pPk 1))) pNil)) (gP 6))
    (sSeq (sAsg (pIxN 1 (pPk 6)) (gIx 5 (pVar 3)))
    (sSeq (sAsg (pIxN 1 (pPk 3)) (gIx 5 (pVar 6)))
    (sRet (pMove 5))))))
    sNext)
  (sRet (pOp (opB .Add) (pOp (opB .Add) (pSlN 1 none (some (pVar 3))) (pF (pLst (pCons (pCallR sp__law_pick xc 0 (pCons (pVar 4) pNil)) pNil)))) (pF (pSlN 1 (some (pOp (opB .Add) (pVar 3) (pF (pC (.int 1))))) none)))))))))))))
@[irreducible] def sp__law_spoilt_once : PSp := semFn 5 2 true b__law_spoilt_once

/- _law_spoilt(d, words): 0 d, 1 words, 2 found, 3 k -/
def b__law_spoilt (xc : XC) : pS :=
  (sSeq (sAsg (pBlt .list_ (pLast (pPk 1))) (gP 2))
  (sSeq (pFor (iRange1 (pCallR sp__law_pick xc 0 (pCons (pLst (pCons (pC (.int 0)) (pCons (pC (.int 1)) (pCons (pC (.int 1)) (pCons (pC (.int 1)) (pCons (pC (.int 2)) pNil)))))) pNil))) (gP 3)
    (sAsg (pCallR sp__law_spoilt_once xc 0 (pCons (pVar 2) pNil)) (gP 2)))
  (sRet (pMove 2))))
@[irreducible] def sp__law_spoilt : PSp := semFn 2 2 true b__law_spoilt

/- _law_words(formula): 0 formula, 1 waiting, 2 words, 3 part, 4 k, 5 number -/
def b__law_words (xc : XC) : pS :=
  (sSeq (sAsg (pLst (pCons (pVar 0) pNil)) (gP 1))
  (sSeq (sAsg (pLst pNil) (gP 2))
  (sSeq (pWhile (pB (pOp (cmpB .Gt) (pBlt .len (pLast (pPk 1))) (pF (pC (.int 0)))))
    (sSeq (sAsg (pPop 1) (gP 3))
    (sSeq (sDrop (pAppend 2 (pIxN 3 (pF (pC (.int 0))))))
    (sIf (pB (pOp (cmpB .In) (pIxN 3 (pF (pC (.int 0)))) (pF (pTup (pCons (pC (.str "most")) (pCons (pC (.str "rest")) pNil))))))
      (sAsg (pOp (opB .Add) (pVar 2) (pF (pLc (iVal (pSlN 3 (some (pC (.int 1))) none)) (gP 5) pYes (pBlt .str_ (pLast (pPk 5))) [5]))) (gP 2))
      (pFor (iRange3 (pOp (opB .Sub) (pBlt .len (pLast (pPk 3))) (pF (pC (.int 1)))) (pC (.int 0)) (pUn (unB .USub) (pC (.int 1)))) (gP 4)
        (sDrop (pAppend 1 (pIxN 3 (pPk 4)))))))))
  (sRet (pMove 2)))))
@[irreducible] def sp__law_words : PSp := semFn 5 1 false b__law_words

/- _law_number(d): 0 d, 1 way, 2 found, 3 k -/
def b__law_number (xc : XC) : pS :=
  (sSeq (sAsg (pCallR sp__law_draw xc 0 (pCons (pC (.int 4)) pNil)) (gP 1))
  (sSeq (sIf (pB (pOp (cmpB .Eq) (pVar 1) (pF (pC (.int 0)))))
    (sRet (pCallR sp__law_draw xc 0 (pCons (pC (.int 13)) pNil)))
    sNext)
  (sSeq (sIf (pB (pOp (cmpB .Eq) (pVar 1) (pF (pC (.int 1)))))
    (sRet (pCallR sp__law_draw xc 0 (pCons (pC (.int 1000)) pNil)))
    sNext)
  (sSeq (sIf (pB (pOp (cmpB .Eq) (pVar 1) (pF (pC (.int 2)))))
    (sRet (pOp (opB .Add) (pOp (opB .Mult) (pCallR sp__law_draw xc 0 (pCons (pC (.int 1000000)) pNil)) (pF (pC (.int 1000003)))) (pF (pCallR sp__law_draw xc 0 (pCons (pC (.int 1000000)) pNil)))))
    sNext)
  (sSeq (sAsg (pC (.int 0)) (gP 2))
  (sSeq (pFor (iRange1 (pOp (opB .Add) (pC (.int 1)) (pF (pCallR sp__law_draw xc 0 (pCons (pC (.int 6)) pNil))))) (gP 3)
    (sAsg (pOp (opB .Add) (pOp (opB .Mult) (pVar 2) (pF (pC (.int 1000000)))) (pF (pCallR sp__law_draw xc 0 (pCons (pC (.int 1000000)) pNil)))) (gP 2)))
  (sRet (pMove 2))))))))
@[irreducible] def sp__law_number : PSp := semFn 3 1 true b__law_number

/- _law_count(d): 0 d, 1 way -/
def b__law_count (xc : XC) : pS :=
  (sSeq (sAsg (pCallR sp__law_draw xc 0 (pCons (pC (.int 12)) pNil)) (gP 1))
  (sSeq (sIf (pB (pOp (cmpB .Eq) (pVar 1) (pF (pC (.int 0)))))
    (sRet (pOp (opB .Sub) (pOp (opB .Sub) (pOp (opB .Pow) (pC (.int 10)) (pF (pC (.int 60)))) (pF (pC (.int 1)))) (pF (pCallR sp__law_draw xc 0 (pCons (pC (.int 9)) pNil)))))
    sNext)
  (sSeq (sIf (pB (pOp (cmpB .Lt) (pVar 1) (pF (pC (.int 3)))))
    (sRet (pCallR sp__law_number xc 0 pNil))
    sNext)
  (sRet (pCallR sp__law_draw xc 0 (pCons (pC (.int 12)) pNil))))))
@[irreducible] def sp__law_count : PSp := semFn 1 1 true b__law_count

/- _law_atom(d): 0 d -/
def b__law_atom (xc : XC) : pS :=
  (sSeq (sIf (pB (pOp (cmpB .Eq) (pCallR sp__law_draw xc 0 (pCons (pC (.int 2)) pNil)) (pF (pC (.int 0)))))
    (sRet (pTup (pCons (pC (.str "most")) (pCons (pCallR sp__law_count xc 0 pNil) (pCons (pCallR sp__law_count xc 0 pNil) pNil)))))
    sNext)
  (sRet (pTup (pCons (pC (.str "rest")) (pCons (pCallR sp__law_count xc 0 pNil) (pCons (pCallR sp__law_count xc 0 pNil) (pCons (pCallR sp__law_count xc 0 pNil) pNil)))))))
@[irreducible] def sp__law_atom : PSp := semFn 0 1 true b__law_atom

/- _law_formula(d): 0 d, 1 many, 2 parts, 3 k, 4 one, 5 other, 6 found, 7 level, 8 wanted -/
def b__law_formula (xc : XC) : pS :=
  (sSeq (sAsg (pOp (opB .Add) (pC (.int 1)) (pF (pCallR sp__law_draw xc 0 (pCons (pC (.int 6)) pNil)))) (gP 1))
  (sSeq (sIf (pB (pOp (cmpB .Eq) (pCallR sp__law_draw xc 0 (pCons (pC (.int 6)) pNil)) (pF (pC (.int 1)))))
    (sAsg (pOp (opB .Add) (pVar 1) (pF (pC (.int 6)))) (gP 1))
    sNext)
  (sSeq (sAsg (pLc (iRange1 (pVar 1)) (gP 3) pYes (pTup (pCons (pCallR sp__law_atom xno 0 pNil) (pCons (pC (.int 1)) pNil))) [3]) (gP 2))
  (sSeq (pFor (iRange1 (pOp (opB .Sub) (pVar 1) (pF (pC (.int 1))))) (gP 3)
    (sSeq (sAsg (pPopAt 2 (pCallR sp__law_draw xc 0 (pCons (pBlt .len (pLast (pPk 2))) pNil))) (gP 4))
    (sSeq (sAsg (pPopAt 2 (pCallR sp__law_draw xc 0 (pCons (pBlt .len (pLast (pPk 2))) pNil))) (gP 5))
    (sDrop (pAppend 2 (pTup (pCons (pTup (pCons (pCallR sp__law_pick xc 0 (pCons (pLst (pCons (pC (.str "and")) (pCons (pC (.str "or")) pNil))) pNil)) (pCons (pIxN 4 (pF (pC (.int 0)))) (pCons (pIxN 5 (pF (pC (.int 0)))) pNil)))) (pCons (pOp (opB .Add) (pC (.int 1)) (pF (pBlt .max_ (pCons (pIxN 4 (pF (pC (.int 1)))) (pLast (pF (pIxN 5 (pF (pC (.int 1)))))))))) pNil))))))))
  (sSeq (sAsg (pIxN 2 (pF (pC (.int 0)))) (gTL 2 (gsCons (gP 6) (gsCons (gP 7) gsNil))))
  (sSeq (sAsg (pCallR sp__law_pick xc 0 (pCons (pLst (pCons (pC (.int 0)) (pCons (pC (.int 0)) (pCons (pOp (opB .Add) (pVar 7) (pF (pC (.int 1)))) (pCons (pOp (opB .Add) (pVar 7) (pF (pC (.int 2)))) (pCons (pC (.int 8)) (pCons (pC (.int 8)) (pCons (pC (.int 9)) (pCons (pC (.int 9)) pNil))))))))) pNil)) (gP 8))
  (sSeq (pFor (iRange1 (pOp (opB .Sub) (pVar 8) (pPk 7))) (gP 3)
    (sAsg (pTup (pCons (pC (.str "not")) (pCons (pVar 6) pNil))) (gP 6)))
  (sRet (pMove 6)))))))))
@[irreducible] def sp__law_formula : PSp := semFn 8 1 true b__law_formula

/- _law_begin(script): 0 script, 1 cell -/
def b__law_begin (xc : XC) : pS :=
  (sRet (pLst (pCons (pLc (iVal (pVar 0)) (gP 1) pYes (pBlt .int_ (pLast (pPk 1))) [1]) (pCons (pC (.int 0)) (pCons (pC (.int 0)) (pCons (pC (.int 7)) (pCons (pC (.int 3)) pNil)))))))
@[irreducible] def sp__law_begin : PSp := semFn 1 1 false b__law_begin

/- law(script): 0 script, 1 d, 2 formula, 3 words, 4 k, 5 odd -/
def b_law (xc : XC) : pS :=
  (sSeq (sAsg (pCall sp__law_begin xc (pCons (pVar 0) pNil)) (gP 1))
  (sSeq (sAsg (pCallR sp__law_formula xc 1 pNil) (gP 2))
  (sSeq (sAsg (pCall sp__law_words xc (pCons (pVar 2) pNil)) (gP 3))
  (sSeq (sIf (pOrT (pB (pOp (cmpB .NotEq) (pCall sp_told_formula xc (pCons (pVar 2) pNil)) (pF (pJoin (pC (.str " ")) (pPk 3))))) (pNotT (pB (pCall sp__law_right xc (pCons (pVar 3) pNil)))))
    (sRet (pC (.bl false)))
    sNext)
  (sSeq (pFor (iRange1 (pC (.int 4))) (gP 4)
    (sIf (pNotT (pB (pCall sp__law_right xc (pCons (pCallR sp__law_spoilt xc 1 (pCons (pVar 3) pNil)) pNil))))
      (sRet (pC (.bl false)))
      sNext))
  (sSeq (sAsg (pCallR sp__law_pick xc 1 (pCons (pLst (pCons (pC .non) (pCons (pC (.int 7)) (pCons (pVar 2) (pCons (pBlt .tuple_ (pLast (pPk 3))) (pCons (pBlt .list_ (pLast (pPk 3))) (pCons (pLst (pCons (pJoin (pC (.str " ")) (pPk 3)) pNil)) pNil))))))) pNil)) (gP 5))
  (sSeq (sIf (pB (pOp (cmpB .NotEq) (pCall sp__law_read xc (pCons (pVar 5) pNil)) (pF (pTup (pCons (pC (.str "bad")) (pCons (pC (.int 0)) (pCons (pC (.str "text")) pNil)))))))
    (sRet (pC (.bl false)))
    sNext)
  (sSeq (sIf (pAndT (pB (pOp (cmpB .Eq) (pCallR sp__law_draw xc 1 (pCons (pC (.int 4)) pNil)) (pF (pC (.int 0))))) (pNotT (pB (pCallR sp__law_long_right xc 1 pNil))))
    (sRet (pC (.bl false)))
    sNext)
  (sRet (pCall sp__law_right xc (pCons (pVar 3) pNil)))))))))))
@[irreducible] def sp_law : PSp := semFn 5 1 false b_law
end K90
set_option Elab.async false
set_option linter.all false
set_option maxRecDepth 100000
set_option maxHeartbeats 4000000
namespace K90
open PySem PySem.Spec PyProof.Rows L2 PL PLX
def d_row_words : He.DefD := ⟨("row_words", none), "row_words", "row_words", defArgs (top 13), defBody (top 13), defScope (top 13), [], []⟩
def S_row_words : SC := ⟨["row", "number"], defScope (top 13), [], errT, exmT, fldT, freeT, 1, true, none⟩
theorem tie_row_words (xc : XC) : stB (sem 60) S_row_words xc (d_row_words).body = b_row_words xc := by kernel_rfl
theorem sc_row_words : FnScope (S_row_words).N ["row"] (S_row_words).sc := ⟨rfl, rfl, rfl, by decide +kernel, rfl, by decide +kernel, by decide +kernel⟩
def d_formula_words : He.DefD := ⟨("formula_words", none), "formula_words", "formula_words", defArgs (top 16), defBody (top 16), defScope (top 16), [], []⟩
def S_formula_words (k : Nat) : SC := ⟨["formula", "words", "part"], defScope (top 16), [("formula_words", .fn 1 2 false (b_formula_words k)), ("row_words", .fn 1 1 false b_row_words), ("NUMBERS", .kd c_NUMBERS)], errT, exmT, fldT, freeT, 2 + k, true, none⟩
theorem tie_formula_words (k : Nat) (xc : XC) : stB (sem 60) (S_formula_words k) xc (d_formula_words).body = b_formula_words (k + 1) xc := by kernel_rfl
theorem sc_formula_words : FnScope (S_formula_words 0).N ["formula"] (S_formula_words 0).sc := ⟨rfl, rfl, rfl, by decide +kernel, rfl, by decide +kernel, by decide +kernel⟩
def d_told_formula : He.DefD := ⟨("told_formula", none), "told_formula", "told_formula", defArgs (top 17), defBody (top 17), defScope (top 17), [], []⟩
def S_told_formula : SC := ⟨["formula"], defScope (top 17), [("formula_words", .fn 1 2 false (b_formula_words 16))], errT, exmT, fldT, freeT, 18, true, none⟩
theorem tie_told_formula (xc : XC) : stB (sem 60) S_told_formula xc (d_told_formula).body = b_told_formula xc := by kernel_rfl
theorem sc_told_formula : FnScope (S_told_formula).N ["formula"] (S_told_formula).sc := ⟨rfl, rfl, rfl, by decide +kernel, rfl, by decide +kernel, by decide +kernel⟩
def d__law_read_by_hand : He.DefD := ⟨("_law_read_by_hand", none), "_law_read_by_hand", "_law_read_by_hand", defArgs (top 33), defBody (top 33), defScope (top 33), [], []⟩
def S__law_read_by_hand : SC := ⟨["words", "values", "word", "part", "k"], defScope (top 33), [], errT, exmT, fldT, freeT, 1, true, none⟩
theorem tie__law_read_by_hand (xc : XC) : stB (sem 60) S__law_read_by_hand xc (d__law_read_by_hand).body = b__law_read_by_hand xc := by kernel_rfl
theorem sc__law_read_by_hand : FnScope (S__law_read_by_hand).N ["words"] (S__law_read_by_hand).sc := ⟨rfl, rfl, rfl, by decide +kernel, rfl, by decide +kernel, by decide +kernel⟩
def d_is_figures : He.DefD := ⟨("is_figures", none), "is_figures", "is_figures", defArgs (top 10), defBody (top 10), defScope (top 10), [], []⟩
def S_is_figures : SC := ⟨["word", "sign"], defScope (top 10), [("FIGURES", .con c_FIGURES), ("MOST_FIGURES", .con c_MOST_FIGURES)], errT, exmT, fldT, freeT, 1, true, none⟩
theorem tie_is_figures (xc : XC) : stB (sem 60) S_is_figures xc (d_is_figures).body = b_is_figures xc := by kernel_rfl
theorem sc_is_figures : FnScope (S_is_figures).N ["word"] (S_is_figures).sc := ⟨rfl, rfl, rfl, by decide +kernel, rfl, by decide +kernel, by decide +kernel⟩
def d_count_in : He.DefD := ⟨("count_in", none), "count_in", "count_in", defArgs (top 11), defBody (top 11), defScope (top 11), [], []⟩
def S_count_in : SC := ⟨["word", "line"], defScope (top 11), [("is_figures", .fn 1 1 false b_is_figures)], errT, exmT, fldT, freeT, 2, true, none⟩
theorem tie_count_in (xc : XC) : stB (sem 60) S_count_in xc (d_count_in).body = b_count_in xc := by kernel_rfl
theorem sc_count_in : FnScope (S_count_in).N ["word", "line"] (S_count_in).sc := ⟨rfl, rfl, rfl, by decide +kernel, rfl, by decide +kernel, by decide +kernel⟩
def d_word_at : He.DefD := ⟨("word_at", none), "word_at", "word_at", defArgs (top 18), defBody (top 18), defScope (top 18), [], []⟩
def S_word_at : SC := ⟨["words", "place"], defScope (top 18), [], errT, exmT, fldT, freeT, 1, true, none⟩
theorem tie_word_at (xc : XC) : stB (sem 60) S_word_at xc (d_word_at).body = b_word_at xc := by kernel_rfl
theorem sc_word_at : FnScope (S_word_at).N ["words", "place"] (S_word_at).sc := ⟨rfl, rfl, rfl, by decide +kernel, rfl, by decide +kernel, by decide +kernel⟩
def d_atom_in : He.DefD := ⟨("atom_in", none), "atom_in", "atom_in", defArgs (top 19), defBody (top 19), defScope (top 19), [], []⟩
def S_atom_in : SC := ⟨["words", "place", "many", "numbers", "further"], defScope (top 19), [("count_in", .fn 2 0 false b_count_in), ("word_at", .fn 2 0 false b_word_at), ("NUMBERS", .kd c_NUMBERS)], errT, exmT, fldT, freeT, 3, true, none⟩
theorem tie_atom_in (xc : XC) : stB (sem 60) S_atom_in xc (d_atom_in).body = b_atom_in xc := by kernel_rfl
theorem sc_atom_in : FnScope (S_atom_in).N ["words", "place"] (S_atom_in).sc := ⟨rfl, rfl, rfl, by decide +kernel, rfl, by decide +kernel, by decide +kernel⟩
def d_formula_in : He.DefD := ⟨("formula_in", none), "formula_in", "formula_in", defArgs (top 20), defBody (top 20), defScope (top 20), [], []⟩
def S_formula_in (k : Nat) : SC := ⟨["words", "place", "depth", "word", "parts", "behind", "turn", "part"], defScope (top 20), [("formula_in", .fn 3 5 false (b_formula_in k)), ("atom_in", .fn 2 3 false b_atom_in), ("word_at", .fn 2 0 false b_word_at), ("PARTS", .kd c_PARTS), ("NUMBERS", .kd c_NUMBERS), ("MOST_DEPTH", .con c_MOST_DEPTH)], errT, exmT, fldT, freeT, 4 + k, true, none⟩
theorem tie_formula_in (k : Nat) (xc : XC) : stB (sem 60) (S_formula_in k) xc (d_formula_in).body = b_formula_in (k + 1) xc := by kernel_rfl
theorem sc_formula_in : FnScope (S_formula_in 0).N ["words", "place", "depth"] (S_formula_in 0).sc := ⟨rfl, rfl, rfl, by decide +kernel, rfl, by decide +kernel, by decide +kernel⟩
def d_read_formula : He.DefD := ⟨("read_formula", none), "read_formula", "read_formula", defArgs (top 21), defBody (top 21), defScope (top 21), [], []⟩
def S_read_formula : SC := ⟨["text", "words", "formula", "behind"], defScope (top 21), [("formula_in", .fn 3 5 false (b_formula_in 11)), ("MOST_SIGNS", .con c_MOST_SIGNS)], errT, exmT, fldT, freeT, 15, true, none⟩
theorem tie_read_formula (xc : XC) : stB (sem 60) S_read_formula xc (d_read_formula).body = b_read_formula xc := by kernel_rfl
theorem sc_read_formula : FnScope (S_read_formula).N ["text"] (S_read_formula).sc := ⟨rfl, rfl, rfl, by decide +kernel, rfl, by decide +kernel, by decide +kernel⟩
def d__law_read : He.DefD := ⟨("_law_read", none), "_law_read", "_law_read", defArgs (top 36), defBody (top 36), defScope (top 36), [], []⟩
def S__law_read : SC := ⟨["text", "found", "raised"], defScope (top 36), [("read_formula", .fn 1 3 false b_read_formula)], errT, exmT, fldT, freeT, 16, true, none⟩
theorem tie__law_read (xc : XC) : stB (sem 60) S__law_read xc (d__law_read).body = b__law_read xc := by kernel_rfl
theorem sc__law_read : FnScope (S__law_read).N ["text"] (S__law_read).sc := ⟨rfl, rfl, rfl, by decide +kernel, rfl, by decide +kernel, by decide +kernel⟩
def d__law_is_figures : He.DefD := ⟨("_law_is_figures", none), "_law_is_figures", "_law_is_figures", defArgs (top 31), defBody (top 31), defScope (top 31), [], []⟩
def S__law_is_figures : SC := ⟨["word", "sign"], defScope (top 31), [], errT, exmT, fldT, freeT, 1, true, none⟩
theorem tie__law_is_figures (xc : XC) : stB (sem 60) S__law_is_figures xc (d__law_is_figures).body = b__law_is_figures xc := by kernel_rfl
theorem sc__law_is_figures : FnScope (S__law_is_figures).N ["word"] (S__law_is_figures).sc := ⟨rfl, rfl, rfl, by decide +kernel, rfl, by decide +kernel, by decide +kernel⟩
def d__law_due : He.DefD := ⟨("_law_due", none), "_law_due", "_law_due", defArgs (top 32), defBody (top 32), defScope (top 32), [], []⟩
def S__law_due : SC := ⟨["words", "waiting", "place", "level", "word"], defScope (top 32), [("_law_is_figures", .fn 1 1 false b__law_is_figures)], errT, exmT, fldT, freeT, 2, true, none⟩
theorem tie__law_due (xc : XC) : stB (sem 60) S__law_due xc (d__law_due).body = b__law_due xc := by kernel_rfl
theorem sc__law_due : FnScope (S__law_due).N ["words"] (S__law_due).sc := ⟨rfl, rfl, rfl, by decide +kernel, rfl, by decide +kernel, by decide +kernel⟩
def d__law_right : He.DefD := ⟨("_law_right", none), "_law_right", "_law_right", defArgs (top 37), defBody (top 37), defScope (top 37), [], []⟩
def S__law_right : SC := ⟨["words", "text", "due", "found", "whole"], defScope (top 37), [("told_formula", .fn 1 0 false b_told_formula), ("_law_read_by_hand", .fn 1 4 false b__law_read_by_hand), ("_law_read", .fn 1 2 false b__law_read), ("_law_due", .fn 1 4 false b__law_due)], errT, exmT, fldT, freeT, 19, true, none⟩
theorem tie__law_right (xc : XC) : stB (sem 60) S__law_right xc (d__law_right).body = b__law_right xc := by kernel_rfl
theorem sc__law_right : FnScope (S__law_right).N ["words"] (S__law_right).sc := ⟨rfl, rfl, rfl, by decide +kernel, rfl, by decide +kernel, by decide +kernel⟩
def d__law_draw : He.DefD := ⟨("_law_draw", none), "_law_draw", "_law_draw", defArgs (top 24), defBody (top 24), defScope (top 24), [], []⟩
def S__law_draw : SC := ⟨["d", "many", "found", "size", "cell"], defScope (top 24), [], errT, exmT, fldT, freeT, 1, true, none⟩
theorem tie__law_draw (xc : XC) : stB (sem 60) S__law_draw xc (d__law_draw).body = b__law_draw xc := by kernel_rfl
theorem sc__law_draw : FnScope (S__law_draw).N ["d", "many"] (S__law_draw).sc := ⟨rfl, rfl, rfl, by decide +kernel, rfl, by decide +kernel, by decide +kernel⟩
def d__law_long_right : He.DefD := ⟨("_law_long_right", none), "_law_long_right", "_law_long_right", defArgs (top 38), defBody (top 38), defScope (top 38), [], []⟩
def S__law_long_right : SC := ⟨["d", "text"], defScope (top 38), [("_law_read", .fn 1 2 false b__law_read), ("_law_draw", .fn 2 3 true b__law_draw)], errT, exmT, fldT, freeT, 17, true, none⟩
theorem tie__law_long_right (xc : XC) : stB (sem 60) S__law_long_right xc (d__law_long_right).body = b__law_long_right xc := by kernel_rfl
theorem sc__law_long_right : FnScope (S__law_long_right).N ["d"] (S__law_long_right).sc := ⟨rfl, rfl, rfl, by decide +kernel, rfl, by decide +kernel, by decide +kernel⟩
def d__law_pick : He.DefD := ⟨("_law_pick", none), "_law_pick", "_law_pick", defArgs (top 25), defBody (top 25), defScope (top 25), [], []⟩
def S__law_pick : SC := ⟨["d", "row"], defScope (top 25), [("_law_draw", .fn 2 3 true b__law_draw)], errT, exmT, fldT, freeT, 2, true, none⟩
theorem tie__law_pick (xc : XC) : stB (sem 60) S__law_pick xc (d__law_pick).body = b__law_pick xc := by kernel_rfl
theorem sc__law_pick : FnScope (S__law_pick).N ["d", "row"] (S__law_pick).sc := ⟨rfl, rfl, rfl, by decide +kernel, rfl, by decide +kernel, by decide +kernel⟩
def d__law_spoilt_once : He.DefD := ⟨("_law_spoilt_once", none), "_law_spoilt_once", "_law_spoilt_once", defArgs (top 34), defBody (top 34), defScope (top 34), [], []⟩
def S__law_spoilt_once : SC := ⟨["d", "words", "way", "place", "others", "found", "second"], defScope (top 34), [("_law_pick", .fn 2 0 true b__law_pick), ("_law_draw", .fn 2 3 true b__law_draw)], errT, exmT, fldT, freeT, 3, true, none⟩
theorem tie__law_spoilt_once (xc : XC) : stB (sem 60) S__law_spoilt_once xc (d__law_spoilt_once).body = b__law_spoilt_once xc := by kernel_rfl
theorem sc__law_spoilt_once : FnScope (S__law_spoilt_once).N ["d", "words"] (S__law_spoilt_once).sc := ⟨rfl, rfl, rfl, by decide +kernel, rfl, by decide +kernel, by decide +kernel⟩
def d__law_spoilt : He.DefD := ⟨("_law_spoilt", none), "_law_spoilt", "_law_spoilt", defArgs (top 35), defBody (top 35), defScope (top 35), [], []⟩
def S__law_spoilt : SC := ⟨["d", "words", "found", "k"], defScope (top 35), [("_law_pick", .fn 2 0 true b__law_pick), ("_law_spoilt_once", .fn 2 5 true b__law_spoilt_once)], errT, exmT, fldT, freeT, 4, true, none⟩
theorem tie__law_spoilt (xc : XC) : stB (sem 60) S__law_spoilt xc (d__law_spoilt).body = b__law_spoilt xc := by kernel_rfl
theorem sc__law_spoilt : FnScope (S__law_spoilt).N ["d", "words"] (S__law_spoilt).sc := ⟨rfl, rfl, rfl, by decide +kernel, rfl, by decide +kernel, by decide +kernel⟩
def d__law_words : He.DefD := ⟨("_law_words", none), "_law_words", "_law_words", defArgs (top 30), defBody (top 30), defScope (top 30), [], []⟩
def S__law_words : SC := ⟨["formula", "waiting", "words", "part", "k", "number"], defScope (top 30), [], errT, exmT, fldT, freeT, 1, true, none⟩
theorem tie__law_words (xc : XC) : stB (sem 60) S__law_words xc (d__law_words).body = b__law_words xc := by kernel_rfl
theorem sc__law_words : FnScope (S__law_words).N ["formula"] (S__law_words).sc := ⟨rfl, rfl, rfl, by decide +kernel, rfl, by decide +kernel, by decide +kernel⟩
def d__law_number : He.DefD := ⟨("_law_number", none), "_law_number", "_law_number", defArgs (top 26), defBody (top 26), defScope (top 26), [], []⟩
def S__law_number : SC := ⟨["d", "way", "found", "k"], defScope (top 26), [("_law_draw", .fn 2 3 true b__law_draw)], errT, exmT, fldT, freeT, 2, true, none⟩
theorem tie__law_number (xc : XC) : stB (sem 60) S__law_number xc (d__law_number).body = b__law_number xc := by kernel_rfl
theorem sc__law_number : FnScope (S__law_number).N ["d"] (S__law_number).sc := ⟨rfl, rfl, rfl, by decide +kernel, rfl, by decide +kernel, by decide +kernel⟩
def d__law_count : He.DefD := ⟨("_law_count", none), "_law_count", "_law_count", defArgs (top 27), defBody (top 27), defScope (top 27), [], []⟩
def S__law_count : SC := ⟨["d", "way"], defScope (top 27), [("_law_draw", .fn 2 3 true b__law_draw), ("_law_number", .fn 1 3 true b__law_number)], errT, exmT, fldT, freeT, 3, true, none⟩
theorem tie__law_count (xc : XC) : stB (sem 60) S__law_count xc (d__law_count).body = b__law_count xc := by kernel_rfl
theorem sc__law_count : FnScope (S__law_count).N ["d"] (S__law_count).sc := ⟨rfl, rfl, rfl, by decide +kernel, rfl, by decide +kernel, by decide +kernel⟩
def d__law_atom : He.DefD := ⟨("_law_atom", none), "_law_atom", "_law_atom", defArgs (top 28), defBody (top 28), defScope (top 28), [], []⟩
def S__law_atom : SC := ⟨["d"], defScope (top 28), [("_law_count", .fn 1 1 true b__law_count), ("_law_draw", .fn 2 3 true b__law_draw)], errT, exmT, fldT, freeT, 4, true, none⟩
theorem tie__law_atom (xc : XC) : stB (sem 60) S__law_atom xc (d__law_atom).body = b__law_atom xc := by kernel_rfl
theorem sc__law_atom : FnScope (S__law_atom).N ["d"] (S__law_atom).sc := ⟨rfl, rfl, rfl, by decide +kernel, rfl, by decide +kernel, by decide +kernel⟩
def d__law_formula : He.DefD := ⟨("_law_formula", none), "_law_formula", "_law_formula", defArgs (top 29), defBody (top 29), defScope (top 29), [], []⟩
def S__law_formula : SC := ⟨["d", "many", "parts", "k", "one", "other", "found", "level", "wanted"], defScope (top 29), [("_law_pick", .fn 2 0 true b__law_pick), ("_law_draw", .fn 2 3 true b__law_draw), ("_law_atom", .fn 1 0 true b__law_atom)], errT, exmT, fldT, freeT, 5, true, none⟩
theorem tie__law_formula (xc : XC) : stB (sem 60) S__law_formula xc (d__law_formula).body = b__law_formula xc := by kernel_rfl
theorem sc__law_formula : FnScope (S__law_formula).N ["d"] (S__law_formula).sc := ⟨rfl, rfl, rfl, by decide +kernel, rfl, by decide +kernel, by decide +kernel⟩
def d__law_begin : He.DefD := ⟨("_law_begin", none), "_law_begin", "_law_begin", defArgs (top 23), defBody (top 23), defScope (top 23), [], []⟩
def S__law_begin : SC := ⟨["script", "cell"], defScope (top 23), [], errT, exmT, fldT, freeT, 1, true, none⟩
theorem tie__law_begin (xc : XC) : stB (sem 60) S__law_begin xc (d__law_begin).body = b__law_begin xc := by kernel_rfl
theorem sc__law_begin : FnScope (S__law_begin).N ["script"] (S__law_begin).sc := ⟨rfl, rfl, rfl, by decide +kernel, rfl, by decide +kernel, by decide +kernel⟩
def d_law : He.DefD := ⟨("law", none), "law", "law", defArgs (top 39), defBody (top 39), defScope (top 39), [], []⟩
def S_law : SC := ⟨["script", "d", "formula", "words", "k", "odd"], defScope (top 39), [("_law_right", .fn 1 4 false b__law_right), ("_law_long_right", .fn 1 1 true b__law_long_right), ("_law_draw", .fn 2 3 true b__law_draw), ("_law_read", .fn 1 2 false b__law_read), ("_law_pick", .fn 2 0 true b__law_pick), ("_law_spoilt", .fn 2 2 true b__law_spoilt), ("told_formula", .fn 1 0 false b_told_formula), ("_law_words", .fn 1 5 false b__law_words), ("_law_formula", .fn 1 8 true b__law_formula), ("_law_begin", .fn 1 1 false b__law_begin)], errT, exmT, fldT, freeT, 20, true, none⟩
theorem tie_law (xc : XC) : stB (sem 60) S_law xc (d_law).body = b_law xc := by kernel_rfl
theorem sc_law : FnScope (S_law).N ["script"] (S_law).sc := ⟨rfl, rfl, rfl, by decide +kernel, rfl, by decide +kernel, by decide +kernel⟩
def fnT : List He.DefD := [d_row_words, d_formula_words, d_told_formula, d__law_read_by_hand, d_is_figures, d_count_in, d_word_at, d_atom_in, d_formula_in, d_read_formula, d__law_read, d__law_is_figures, d__law_due, d__law_right, d__law_draw, d__law_long_right, d__law_pick, d__law_spoilt_once, d__law_spoilt, d__law_words, d__law_number, d__law_count, d__law_atom, d__law_formula, d__law_begin, d_law]
abbrev e_BadArgument : Stmt := inClass (top 2) 0
def o_BadArgument : OwD := ⟨"BadArgument", "BadArgument.__init__", defArgs e_BadArgument, defBody e_BadArgument, defScope e_BadArgument, ["reason"]⟩
abbrev e_BadText : Stmt := inClass (top 3) 0
def o_BadText : OwD := ⟨"BadText", "BadText.__init__", defArgs e_BadText, defBody e_BadText, defScope e_BadText, ["line", "reason"]⟩
def owT : List OwD := [o_BadArgument, o_BadText]
def faT : List He.Fa := [(.glo "row_words"), (.glo "formula_words"), (.glo "told_formula"), (.glo "_law_read_by_hand"), (.glo "is_figures"), (.glo "count_in"), (.glo "word_at"), (.glo "atom_in"), (.glo "formula_in"), (.glo "read_formula"), (.glo "_law_read"), (.glo "_law_is_figures"), (.glo "_law_due"), (.glo "_law_right"), (.glo "_law_draw"), (.glo "_law_long_right"), (.glo "_law_pick"), (.glo "_law_spoilt_once"), (.glo "_law_spoilt"), (.glo "_law_words"), (.glo "_law_number"), (.glo "_law_count"), (.glo "_law_atom"), (.glo "_law_formula"), (.glo "_law_begin"), (.glo "law"), (.free "abs"), (.free "all"), (.free "int"), (.free "isinstance"), (.free "len"), (.free "list"), (.free "max"), (.free "range"), (.free "repr"), (.free "str"), (.free "tuple")]
def tb : Tb := ⟨faT, fnT, owT, conT, kdT, exmT, fldT, PySem.Challenge.pw_shelfmill_k90_formula_texts_whole.main.file⟩
section
variable {w : World} {K : PySem.W.Frag} {mg : Str → Option Value} {base : Heap} {h : Heap}
abbrev Pr : Program := PySem.Challenge.pw_shelfmill_k90_formula_texts_whole
theorem os_BadArgument : OwnS Pr (o_BadArgument).params (o_BadArgument).scope (o_BadArgument).fs where
  hd := ⟨_, rfl, rfl⟩
  sup := by first | rfl | decide +kernel
  cls := by first | rfl | decide +kernel
  slf := by first | rfl | decide +kernel
  loc := by decide +kernel
  top := by first | rfl | decide +kernel
  cell := by decide +kernel
  co := rfl
  gen := rfl
  kind := rfl
  nd := by decide +kernel
  bind := fun _ _ _ _ _ _ _ _ _ _ us hl => match us, hl with | [_, _], _ => .of_eq (by first | rfl | with_unfolding_all rfl)
theorem or_BadArgument : FldRows (o_BadArgument).fs ((o_BadArgument).body.tail) := (FldRows.cons FldRows.nil (by decide))
theorem os_BadText : OwnS Pr (o_BadText).params (o_BadText).scope (o_BadText).fs where
  hd := ⟨_, rfl, rfl⟩
  sup := by first | rfl | decide +kernel
  cls := by first | rfl | decide +kernel
  slf := by first | rfl | decide +kernel
  loc := by decide +kernel
  top := by first | rfl | decide +kernel
  cell := by decide +kernel
  co := rfl
  gen := rfl
  kind := rfl
  nd := by decide +kernel
  bind := fun _ _ _ _ _ _ _ _ _ _ us hl => match us, hl with | [_, _, _], _ => .of_eq (by first | rfl | with_unfolding_all rfl)
theorem or_BadText : FldRows (o_BadText).fs ((o_BadText).body.tail) := (FldRows.cons (FldRows.cons FldRows.nil (by decide)) (by decide))
theorem com (c : SaysP tb w K) (X : K.In h) (G : h.Ns mainGlobals mg) (d : SC) (e1 : d.errs = errT) (e2 : d.exm = exmT) (e3 : d.flds = fldT) (e4 : d.free = freeT) : Com d Pr K mg where
  err := fun y f fs hy => by
    rw [e1] at hy
    unfold errT at hy
    rw [List.lookup_cons] at hy
    split at hy
    · rename_i z
      cases hy
      rw [beq_iff_eq.mp z]
      obtain ⟨h1, C, fI, h2, h3⟩ := c.ow_ (P := Pr) X G 0 (o := o_BadArgument) rfl rfl
      exact ⟨h1, C, fI, _, _, _, _, _, _, _, _, _, _, _, _, h2, by decide +kernel, h3, os_BadArgument, or_BadArgument, by decide⟩
    skip
    rw [List.lookup_cons] at hy
    split at hy
    · rename_i z
      cases hy
      rw [beq_iff_eq.mp z]
      obtain ⟨h1, C, fI, h2, h3⟩ := c.ow_ (P := Pr) X G 1 (o := o_BadText) rfl rfl
      exact ⟨h1, C, fI, _, _, _, _, _, _, _, _, _, _, _, _, h2, by decide +kernel, h3, os_BadText, or_BadText, by decide⟩
    cases hy
  exm := fun y z b hy => by rw [e2] at hy; rw [e3]; exact c.exm_ X G hy
  free := fun x hx => by
    rw [e4] at hx
    have key : ∀ y ∈ freeT, He.Fa.free y ∈ faT := by
      intro y hy
      simp only [freeT, List.mem_cons, List.not_mem_nil, or_false] at hy
      simp only [faT, List.mem_cons, He.Fa.free.injEq, reduceCtorEq, false_or]
      simpa using hy
    exact He.free_ok X G (c.fact (key x hx))
theorem has_row_words (c : SaysP tb w K) (X : K.In h) (G : h.Ns mainGlobals mg) : Has Pr w K mg base 2 "row_words" 1 1 false b_row_words :=
  has_def (n := 60) (S := S_row_words) (d := d_row_words) (ps := ["row"]) (c.def_ 0 rfl rfl rfl) (He.glo_ok X G (c.fact (f := .glo "row_words") (by simp [tb, faT]))) rfl sc_row_words rfl rfl rfl (fun _ _ _ _ _ _ us hl => match us, hl with | [_], _ => rfl) tie_row_words (com c X G S_row_words rfl rfl rfl rfl)
    gok_nil
theorem has_formula_words_all (c : SaysP tb w K) (X : K.In h) (G : h.Ns mainGlobals mg) : ∀ k, Has Pr w K mg base (2 + k) "formula_words" 1 2 false (b_formula_words k)
  | 0 => has_bot (d := d_formula_words) (ps := ["formula"]) (c.def_ 1 rfl rfl rfl) (He.glo_ok X G (c.fact (f := .glo "formula_words") (by simp [tb, faT]))) (fun _ _ _ _ _ _ us hl => match us, hl with | [_], _ => rfl)
  | k + 1 => has_def (n := 60) (S := S_formula_words k) (d := d_formula_words) (ps := ["formula"]) (c.def_ 1 rfl rfl rfl) (He.glo_ok X G (c.fact (f := .glo "formula_words") (by simp [tb, faT]))) rfl sc_formula_words rfl rfl rfl (fun _ _ _ _ _ _ us hl => match us, hl with | [_], _ => rfl) (tie_formula_words k) (com c X G (S_formula_words k) rfl rfl rfl rfl)
    (gok_fn (has_formula_words_all c X G k) (Nat.le_refl _) (gok_fn (has_row_words c X G) (Nat.le_trans (by decide) (Nat.le_add_right 2 k)) (gok_kd (c.kd_ X G 0 (t := ("NUMBERS", c_NUMBERS)) rfl) gok_nil)))
theorem has_formula_words (c : SaysP tb w K) (X : K.In h) (G : h.Ns mainGlobals mg) : Has Pr w K mg base 18 "formula_words" 1 2 false (b_formula_words 16) := has_formula_words_all c X G 16
theorem has_told_formula (c : SaysP tb w K) (X : K.In h) (G : h.Ns mainGlobals mg) : Has Pr w K mg base 19 "told_formula" 1 0 false b_told_formula :=
  has_def (n := 60) (S := S_told_formula) (d := d_told_formula) (ps := ["formula"]) (c.def_ 2 rfl rfl rfl) (He.glo_ok X G (c.fact (f := .glo "told_formula") (by simp [tb, faT]))) rfl sc_told_formula rfl rfl rfl (fun _ _ _ _ _ _ us hl => match us, hl with | [_], _ => rfl) tie_told_formula (com c X G S_told_formula rfl rfl rfl rfl)
    (gok_fn (has_formula_words c X G) (by decide) gok_nil)
theorem has__law_read_by_hand (c : SaysP tb w K) (X : K.In h) (G : h.Ns mainGlobals mg) : Has Pr w K mg base 2 "_law_read_by_hand" 1 4 false b__law_read_by_hand :=
  has_def (n := 60) (S := S__law_read_by_hand) (d := d__law_read_by_hand) (ps := ["words"]) (c.def_ 3 rfl rfl rfl) (He.glo_ok X G (c.fact (f := .glo "_law_read_by_hand") (by simp [tb, faT]))) rfl sc__law_read_by_hand rfl rfl rfl (fun _ _ _ _ _ _ us hl => match us, hl with | [_], _ => rfl) tie__law_read_by_hand (com c X G S__law_read_by_hand rfl rfl rfl rfl)
    gok_nil
theorem has_is_figures (c : SaysP tb w K) (X : K.In h) (G : h.Ns mainGlobals mg) : Has Pr w K mg base 2 "is_figures" 1 1 false b_is_figures :=
  has_def (n := 60) (S := S_is_figures) (d := d_is_figures) (ps := ["word"]) (c.def_ 4 rfl rfl rfl) (He.glo_ok X G (c.fact (f := .glo "is_figures") (by simp [tb, faT]))) rfl sc_is_figures rfl rfl rfl (fun _ _ _ _ _ _ us hl => match us, hl with | [_], _ => rfl) tie_is_figures (com c X G S_is_figures rfl rfl rfl rfl)
    (gok_con (c.con X G (x := "FIGURES") (d := c_FIGURES) (by simp [tb, conT])) (gok_con (c.con X G (x := "MOST_FIGURES") (d := c_MOST_FIGURES) (by simp [tb, conT])) gok_nil))
theorem has_count_in (c : SaysP tb w K) (X : K.In h) (G : h.Ns mainGlobals mg) : Has Pr w K mg base 3 "count_in" 2 0 false b_count_in :=
  has_def (n := 60) (S := S_count_in) (d := d_count_in) (ps := ["word", "line"]) (c.def_ 5 rfl rfl rfl) (He.glo_ok X G (c.fact (f := .glo "count_in") (by simp [tb, faT]))) rfl sc_count_in rfl rfl rfl (fun _ _ _ _ _ _ us hl => match us, hl with | [_, _], _ => rfl) tie_count_in (com c X G S_count_in rfl rfl rfl rfl)
    (gok_fn (has_is_figures c X G) (by decide) gok_nil)
theorem has_word_at (c : SaysP tb w K) (X : K.In h) (G : h.Ns mainGlobals mg) : Has Pr w K mg base 2 "word_at" 2 0 false b_word_at :=
  has_def (n := 60) (S := S_word_at) (d := d_word_at) (ps := ["words", "place"]) (c.def_ 6 rfl rfl rfl) (He.glo_ok X G (c.fact (f := .glo "word_at") (by simp [tb, faT]))) rfl sc_word_at rfl rfl rfl (fun _ _ _ _ _ _ us hl => match us, hl with | [_, _], _ => rfl) tie_word_at (com c X G S_word_at rfl rfl rfl rfl)
    gok_nil
theorem has_atom_in (c : SaysP tb w K) (X : K.In h) (G : h.Ns mainGlobals mg) : Has Pr w K mg base 4 "atom_in" 2 3 false b_atom_in :=
  has_def (n := 60) (S := S_atom_in) (d := d_atom_in) (ps := ["words", "place"]) (c.def_ 7 rfl rfl rfl) (He.glo_ok X G (c.fact (f := .glo "atom_in") (by simp [tb, faT]))) rfl sc_atom_in rfl rfl rfl (fun _ _ _ _ _ _ us hl => match us, hl with | [_, _], _ => rfl) tie_atom_in (com c X G S_atom_in rfl rfl rfl rfl)
    (gok_fn (has_count_in c X G) (by decide) (gok_fn (has_word_at c X G) (by decide) (gok_kd (c.kd_ X G 0 (t := ("NUMBERS", c_NUMBERS)) rfl) gok_nil)))
theorem has_formula_in_all (c : SaysP tb w K) (X : K.In h) (G : h.Ns mainGlobals mg) : ∀ k, Has Pr w K mg base (4 + k) "formula_in" 3 5 false (b_formula_in k)
  | 0 => has_bot (d := d_formula_in) (ps := ["words", "place", "depth"]) (c.def_ 8 rfl rfl rfl) (He.glo_ok X G (c.fact (f := .glo "formula_in") (by simp [tb, faT]))) (fun _ _ _ _ _ _ us hl => match us, hl with | [_, _, _], _ => rfl)
  | k + 1 => has_def (n := 60) (S := S_formula_in k) (d := d_formula_in) (ps := ["words", "place", "depth"]) (c.def_ 8 rfl rfl rfl) (He.glo_ok X G (c.fact (f := .glo "formula_in") (by simp [tb, faT]))) rfl sc_formula_in rfl rfl rfl (fun _ _ _ _ _ _ us hl => match us, hl with | [_, _, _], _ => rfl) (tie_formula_in k) (com c X G (S_formula_in k) rfl rfl rfl rfl)
    (gok_fn (has_formula_in_all c X G k) (Nat.le_refl _) (gok_fn (has_atom_in c X G) (Nat.le_trans (by decide) (Nat.le_add_right 4 k)) (gok_fn (has_word_at c X G) (Nat.le_trans (by decide) (Nat.le_add_right 4 k)) (gok_kd (c.kd_ X G 1 (t := ("PARTS", c_PARTS)) rfl) (gok_kd (c.kd_ X G 0 (t := ("NUMBERS", c_NUMBERS)) rfl) (gok_con (c.con X G (x := "MOST_DEPTH") (d := c_MOST_DEPTH) (by simp [tb, conT])) gok_nil))))))
theorem has_formula_in (c : SaysP tb w K) (X : K.In h) (G : h.Ns mainGlobals mg) : Has Pr w K mg base 15 "formula_in" 3 5 false (b_formula_in 11) := has_formula_in_all c X G 11
theorem has_read_formula (c : SaysP tb w K) (X : K.In h) (G : h.Ns mainGlobals mg) : Has Pr w K mg base 16 "read_formula" 1 3 false b_read_formula :=
  has_def (n := 60) (S := S_read_formula) (d := d_read_formula) (ps := ["text"]) (c.def_ 9 rfl rfl rfl) (He.glo_ok X G (c.fact (f := .glo "read_formula") (by simp [tb, faT]))) rfl sc_read_formula rfl rfl rfl (fun _ _ _ _ _ _ us hl => match us, hl with | [_], _ => rfl) tie_read_formula (com c X G S_read_formula rfl rfl rfl rfl)
    (gok_fn (has_formula_in c X G) (by decide) (gok_con (c.con X G (x := "MOST_SIGNS") (d := c_MOST_SIGNS) (by simp [tb, conT])) gok_nil))
theorem has__law_read (c : SaysP tb w K) (X : K.In h) (G : h.Ns mainGlobals mg) : Has Pr w K mg base 17 "_law_read" 1 2 false b__law_read :=
  has_def (n := 60) (S := S__law_read) (d := d__law_read) (ps := ["text"]) (c.def_ 10 rfl rfl rfl) (He.glo_ok X G (c.fact (f := .glo "_law_read") (by simp [tb, faT]))) rfl sc__law_read rfl rfl rfl (fun _ _ _ _ _ _ us hl => match us, hl with | [_], _ => rfl) tie__law_read (com c X G S__law_read rfl rfl rfl rfl)
    (gok_fn (has_read_formula c X G) (by decide) gok_nil)
theorem has__law_is_figures (c : SaysP tb w K) (X : K.In h) (G : h.Ns mainGlobals mg) : Has Pr w K mg base 2 "_law_is_figures" 1 1 false b__law_is_figures :=
  has_def (n := 60) (S := S__law_is_figures) (d := d__law_is_figures) (ps := ["word"]) (c.def_ 11 rfl rfl rfl) (He.glo_ok X G (c.fact (f := .glo "_law_is_figures") (by simp [tb, faT]))) rfl sc__law_is_figures rfl rfl rfl (fun _ _ _ _ _ _ us hl => match us, hl with | [_], _ => rfl) tie__law_is_figures (com c X G S__law_is_figures rfl rfl rfl rfl)
    gok_nil
theorem has__law_due (c : SaysP tb w K) (X : K.In h) (G : h.Ns mainGlobals mg) : Has Pr w K mg base 3 "_law_due" 1 4 false b__law_due :=
  has_def (n := 60) (S := S__law_due) (d := d__law_due) (ps := ["words"]) (c.def_ 12 rfl rfl rfl) (He.glo_ok X G (c.fact (f := .glo "_law_due") (by simp [tb, faT]))) rfl sc__law_due rfl rfl rfl (fun _ _ _ _ _ _ us hl => match us, hl with | [_], _ => rfl) tie__law_due (com c X G S__law_due rfl rfl rfl rfl)
    (gok_fn (has__law_is_figures c X G) (by decide) gok_nil)
theorem has__law_right (c : SaysP tb w K) (X : K.In h) (G : h.Ns mainGlobals mg) : Has Pr w K mg base 20 "_law_right" 1 4 false b__law_right :=
  has_def (n := 60) (S := S__law_right) (d := d__law_right) (ps := ["words"]) (c.def_ 13 rfl rfl rfl) (He.glo_ok X G (c.fact (f := .glo "_law_right") (by simp [tb, faT]))) rfl sc__law_right rfl rfl rfl (fun _ _ _ _ _ _ us hl => match us, hl with | [_], _ => rfl) tie__law_right (com c X G S__law_right rfl rfl rfl rfl)
    (gok_fn (has_told_formula c X G) (by decide) (gok_fn (has__law_read_by_hand c X G) (by decide) (gok_fn (has__law_read c X G) (by decide) (gok_fn (has__law_due c X G) (by decide) gok_nil))))
theorem has__law_draw (c : SaysP tb w K) (X : K.In h) (G : h.Ns mainGlobals mg) : Has Pr w K mg base 2 "_law_draw" 2 3 true b__law_draw :=
  has_def (n := 60) (S := S__law_draw) (d := d__law_draw) (ps := ["d", "many"]) (c.def_ 14 rfl rfl rfl) (He.glo_ok X G (c.fact (f := .glo "_law_draw") (by simp [tb, faT]))) rfl sc__law_draw rfl rfl rfl (fun _ _ _ _ _ _ us hl => match us, hl with | [_, _], _ => rfl) tie__law_draw (com c X G S__law_draw rfl rfl rfl rfl)
    gok_nil
theorem has__law_long_right (c : SaysP tb w K) (X : K.In h) (G : h.Ns mainGlobals mg) : Has Pr w K mg base 18 "_law_long_right" 1 1 true b__law_long_right :=
  has_def (n := 60) (S := S__law_long_right) (d := d__law_long_right) (ps := ["d"]) (c.def_ 15 rfl rfl rfl) (He.glo_ok X G (c.fact (f := .glo "_law_long_right") (by simp [tb, faT]))) rfl sc__law_long_right rfl rfl rfl (fun _ _ _ _ _ _ us hl => match us, hl with | [_], _ => rfl) tie__law_long_right (com c X G S__law_long_right rfl rfl rfl rfl)
    (gok_fn (has__law_read c X G) (by decide) (gok_fn (has__law_draw c X G) (by decide) gok_nil))
theorem has__law_pick (c : SaysP tb w K) (X : K.In h) (G : h.Ns mainGlobals mg) : Has Pr w K mg base 3 "_law_pick" 2 0 true b__law_pick :=
  has_def (n := 60) (S := S__law_pick) (d := d__law_pick) (ps := ["d", "row"]) (c.def_ 16 rfl rfl rfl) (He.glo_ok X G (c.fact (f := .glo "_law_pick") (by simp [tb, faT]))) rfl sc__law_pick rfl rfl rfl (fun _ _ _ _ _ _ us hl => match us, hl with | [_, _], _ => rfl) tie__law_pick (com c X G S__law_pick rfl rfl rfl rfl)
    (gok_fn (has__law_draw c X G) (by decide) gok_nil)
theorem has__law_spoilt_once (c : SaysP tb w K) (X : K.In h) (G : h.Ns mainGlobals mg) : Has Pr w K mg base 4 "_law_spoilt_once" 2 5 true b__law_spoilt_once :=
  has_def (n := 60) (S := S__law_spoilt_once) (d := d__law_spoilt_once) (ps := ["d", "words"]) (c.def_ 17 rfl rfl rfl) (He.glo_ok X G (c.fact (f := .glo "_law_spoilt_once") (by simp [tb, faT]))) rfl sc__law_spoilt_once rfl rfl rfl (fun _ _ _ _ _ _ us hl => match us, hl with | [_, _], _ => rfl) tie__law_spoilt_once (com c X G S__law_spoilt_once rfl rfl rfl rfl)
    (gok_fn (has__law_pick c X G) (by decide) (gok_fn (has__law_draw c X G) (by decide) gok_nil))
theorem has__law_spoilt (c : SaysP tb w K) (X : K.In h) (G : h.Ns mainGlobals mg) : Has Pr w K mg base 5 "_law_spoilt" 2 2 true b__law_spoilt :=
  has_def (n := 60) (S := S__law_spoilt) (d := d__law_spoilt) (ps := ["d", "words"]) (c.def_ 18 rfl rfl rfl) (He.glo_ok X G (c.fact (f := .glo "_law_spoilt") (by simp [tb, faT]))) rfl sc__law_spoilt rfl rfl rfl (fun _ _ _ _ _ _ us hl => match us, hl with | [_, _], _ => rfl) tie__law_spoilt (com c X G S__law_spoilt rfl rfl rfl rfl)
    (gok_fn (has__law_pick c X G) (by decide) (gok_fn (has__law_spoilt_once c X G) (by decide) gok_nil))
theorem has__law_words (c : SaysP tb w K) (X : K.In h) (G : h.Ns mainGlobals mg) : Has Pr w K mg base 2 "_law_words" 1 5 false b__law_words :=
  has_def (n := 60) (S := S__law_words) (d := d__law_words) (ps := ["formula"]) (c.def_ 19 rfl rfl rfl) (He.glo_ok X G (c.fact (f := .glo "_law_words") (by simp [tb, faT]))) rfl sc__law_words rfl rfl rfl (fun _ _ _ _ _ _ us hl => match us, hl with | [_], _ => rfl) tie__law_words (com c X G S__law_words rfl rfl rfl rfl)
    gok_nil
theorem has__law_number (c : SaysP tb w K) (X : K.In h) (G : h.Ns mainGlobals mg) : Has Pr w K mg base 3 "_law_number" 1 3 true b__law_number :=
  has_def (n := 60) (S := S__law_number) (d := d__law_number) (ps := ["d"]) (c.def_ 20 rfl rfl rfl) (He.glo_ok X G (c.fact (f := .glo "_law_number") (by simp [tb, faT]))) rfl sc__law_number rfl rfl rfl (fun _ _ _ _ _ _ us hl => match us, hl with | [_], _ => rfl) tie__law_number (com c X G S__law_number rfl rfl rfl rfl)
    (gok_fn (has__law_draw c X G) (by decide) gok_nil)
theorem has__law_count (c : SaysP tb w K) (X : K.In h) (G : h.Ns mainGlobals mg) : Has Pr w K mg base 4 "_law_count" 1 1 true b__law_count :=
  has_def (n := 60) (S := S__law_count) (d := d__law_count) (ps := ["d"]) (c.def_ 21 rfl rfl rfl) (He.glo_ok X G (c.fact (f := .glo "_law_count") (by simp [tb, faT]))) rfl sc__law_count rfl rfl rfl (fun _ _ _ _ _ _ us hl => match us, hl with | [_], _ => rfl) tie__law_count (com c X G S__law_count rfl rfl rfl rfl)
    (gok_fn (has__law_draw c X G) (by decide) (gok_fn (has__law_number c X G) (by decide) gok_nil))
theorem has__law_atom (c : SaysP tb w K) (X : K.In h) (G : h.Ns mainGlobals mg) : Has Pr w K mg base 5 "_law_atom" 1 0 true b__law_atom :=
  has_def (n := 60) (S := S__law_atom) (d := d__law_atom) (ps := ["d"]) (c.def_ 22 rfl rfl rfl) (He.glo_ok X G (c.fact (f := .glo "_law_atom") (by simp [tb, faT]))) rfl sc__law_atom rfl rfl rfl (fun _ _ _ _ _ _ us hl => match us, hl with | [_], _ => rfl) tie__law_atom (com c X G S__law_atom rfl rfl rfl rfl)
    (gok_fn (has__law_count c X G) (by decide) (gok_fn (has__law_draw c X G) (by decide) gok_nil))
theorem has__law_formula (c : SaysP tb w K) (X : K.In h) (G : h.Ns mainGlobals mg) : Has Pr w K mg base 6 "_law_formula" 1 8 true b__law_formula :=
  has_def (n := 60) (S := S__law_formula) (d := d__law_formula) (ps := ["d"]) (c.def_ 23 rfl rfl rfl) (He.glo_ok X G (c.fact (f := .glo "_law_formula") (by simp [tb, faT]))) rfl sc__law_formula rfl rfl rfl (fun _ _ _ _ _ _ us hl => match us, hl with | [_], _ => rfl) tie__law_formula (com c X G S__law_formula rfl rfl rfl rfl)
    (gok_fn (has__law_pick c X G) (by decide) (gok_fn (has__law_draw c X G) (by decide) (gok_fn (has__law_atom c X G) (by decide) gok_nil)))
theorem has__law_begin (c : SaysP tb w K) (X : K.In h) (G : h.Ns mainGlobals mg) : Has Pr w K mg base 2 "_law_begin" 1 1 false b__law_begin :=
  has_def (n := 60) (S := S__law_begin) (d := d__law_begin) (ps := ["script"]) (c.def_ 24 rfl rfl rfl) (He.glo_ok X G (c.fact (f := .glo "_law_begin") (by simp [tb, faT]))) rfl sc__law_begin rfl rfl rfl (fun _ _ _ _ _ _ us hl => match us, hl with | [_], _ => rfl) tie__law_begin (com c X G S__law_begin rfl rfl rfl rfl)
    gok_nil
theorem has_law (c : SaysP tb w K) (X : K.In h) (G : h.Ns mainGlobals mg) : Has Pr w K mg base 21 "law" 1 5 false b_law :=
  has_def (n := 60) (S := S_law) (d := d_law) (ps := ["script"]) (c.def_ 25 rfl rfl rfl) (He.glo_ok X G (c.fact (f := .glo "law") (by simp [tb, faT]))) rfl sc_law rfl rfl rfl (fun _ _ _ _ _ _ us hl => match us, hl with | [_], _ => rfl) tie_law (com c X G S_law rfl rfl rfl rfl)
    (gok_fn (has__law_right c X G) (by decide) (gok_fn (has__law_long_right c X G) (by decide) (gok_fn (has__law_draw c X G) (by decide) (gok_fn (has__law_read c X G) (by decide) (gok_fn (has__law_pick c X G) (by decide) (gok_fn (has__law_spoilt c X G) (by decide) (gok_fn (has_told_formula c X G) (by decide) (gok_fn (has__law_words c X G) (by decide) (gok_fn (has__law_formula c X G) (by decide) (gok_fn (has__law_begin c X G) (by decide) gok_nil))))))))))
end
end K90
set_option Elab.async false
set_option linter.all false
set_option maxRecDepth 100000
set_option maxHeartbeats 4000000
namespace K90
open PySem PySem.Spec PyProof.Rows L2 PL PLX
abbrev R : PySem.W.OpenRow := PySem.W.OpenLaw.row PySem.Challenge.rw_shelfmill_k90_formula_texts_whole
abbrev hk : PySem.W.Hook := hookP 5 tb
def ob (s : PySem.W.SharedT) : AlP := obsPG 5 tb (HandSHeadRun.getT s)
theorem ob_eq (s : PySem.W.SharedT) : ob s = hk.obs s.abs := obsPG_eq (HandSHeadRun.getT_eq s)
theorem run (w : World) : HandSHeadRun.RunEq R (PySem.W.view R.prog [39]) hk ob 2800 ([PySem.Str.ofString "ShelfmillError", PySem.Str.ofString "BadArgument", PySem.Str.ofString "BadText", PySem.Str.ofString "is_figures", PySem.Str.ofString "count_in", PySem.Str.ofString "row_words", PySem.Str.ofString "formula_words", PySem.Str.ofString "told_formula", PySem.Str.ofString "word_at", PySem.Str.ofString "atom_in", PySem.Str.ofString "formula_in", PySem.Str.ofString "read_formula", PySem.Str.ofString "_law_begin", PySem.Str.ofString "_law_draw", PySem.Str.ofString "_law_pick", PySem.Str.ofString "_law_number", PySem.Str.ofString "_law_count", PySem.Str.ofString "_law_atom", PySem.Str.ofString "_law_formula", PySem.Str.ofString "_law_words", PySem.Str.ofString "_law_is_figures", PySem.Str.ofString "_law_due", PySem.Str.ofString "_law_read_by_hand", PySem.Str.ofString "_law_spoilt_once", PySem.Str.ofString "_law_spoilt", PySem.Str.ofString "_law_read", PySem.Str.ofString "_law_right", PySem.Str.ofString "_law_long_right", PySem.Str.ofString "MOST_DEPTH", PySem.Str.ofString "PARTS", PySem.Str.ofString "MOST_FIGURES", PySem.Str.ofString "MOST_SIGNS", PySem.Str.ofString "FIGURES", PySem.Str.ofString "NUMBERS"] : List Str) w := by
  have key : ∀ (b : Bool) (w : World), HandSHeadRun.RunEq R (PySem.W.view R.prog [39]) hk ob 2800 ([PySem.Str.ofString "ShelfmillError", PySem.Str.ofString "BadArgument", PySem.Str.ofString "BadText", PySem.Str.ofString "is_figures", PySem.Str.ofString "count_in", PySem.Str.ofString "row_words", PySem.Str.ofString "formula_words", PySem.Str.ofString "told_formula", PySem.Str.ofString "word_at", PySem.Str.ofString "atom_in", PySem.Str.ofString "formula_in", PySem.Str.ofString "read_formula", PySem.Str.ofString "_law_begin", PySem.Str.ofString "_law_draw", PySem.Str.ofString "_law_pick", PySem.Str.ofString "_law_number", PySem.Str.ofString "_law_count", PySem.Str.ofString "_law_atom", PySem.Str.ofString "_law_formula", PySem.Str.ofString "_law_words", PySem.Str.ofString "_law_is_figures", PySem.Str.ofString "_law_due", PySem.Str.ofString "_law_read_by_hand", PySem.Str.ofString "_law_spoilt_once", PySem.Str.ofString "_law_spoilt", PySem.Str.ofString "_law_read", PySem.Str.ofString "_law_right", PySem.Str.ofString "_law_long_right", PySem.Str.ofString "MOST_DEPTH", PySem.Str.ofString "PARTS", PySem.Str.ofString "MOST_FIGURES", PySem.Str.ofString "MOST_SIGNS", PySem.Str.ofString "FIGURES", PySem.Str.ofString "NUMBERS"] : List Str) (w.withFollow "special-get-raises" b) := by
    intro b w os
    cases b <;> kernel_rfl
  have h := key (w.params.followText "special-get-raises") w
  rwa [World.withFollow_self] at h
end K90
set_option Elab.async false
set_option linter.all false
set_option maxRecDepth 100000
set_option maxHeartbeats 400000
namespace K90
open PySem PySem.Spec PyProof.Rows L2 PL PLX TL
/-! numbers as words -/
abbrev nst (n : Nat) : Str := Str.ofString (toString ((n : Nat) : Int))
def dig (c : Nat) : Bool := decide (48 ≤ c) && decide (c ≤ 57)
def isFig (w : Str) : Bool := decide (0 < (tl w).length) && (decide ((tl w).length ≤ 60) && ((tl w).all dig && (decide (tl w = [48]) || decide ((tl w).head? ≠ some 48))))
def val (w : Str) : Nat := NumText.digitsVal (tl w)
theorem all_dig {l : List Nat} (h : l.all dig = true) : NumText.AllDigits l := fun c hc => by
  have := List.all_eq_true.mp h c hc
  unfold dig at this
  simpa using this
theorem val_snoc (l : List Nat) (c : Nat) : NumText.digitsVal (l ++ [c]) = NumText.digitsVal l * 10 + (c - 48) := by
  unfold NumText.digitsVal
  rw [List.foldl_append]
  rfl
theorem val_ge : ∀ (l : List Nat) (a : Nat), a ≤ l.foldl (fun acc c => acc * 10 + (c - 48)) a
  | [], a => Nat.le_refl _
  | c :: l, a => by
    rw [List.foldl_cons]
    have := val_ge l (a * 10 + (c - 48))
    omega
theorem val_pos {c : Nat} {l : List Nat} (h : 48 < c) : 1 ≤ NumText.digitsVal (c :: l) := by
  unfold NumText.digitsVal
  rw [List.foldl_cons]
  have := val_ge l (0 * 10 + (c - 48))
  omega
theorem numL_back : ∀ (n : Nat) (l : List Nat), l.length = n → l ≠ [] → NumText.AllDigits l → (l = [48] ∨ l.head? ≠ some 48) → numL (NumText.digitsVal l) = l
  | 0, l, hl, hne, _, _ => absurd (List.length_eq_zero_iff.mp hl) hne
  | n + 1, l, hl, hne, hd, h0 => by
    obtain ⟨l', c, rfl⟩ : ∃ l' c, l = l' ++ [c] := ⟨l.dropLast, l.getLast hne, (List.dropLast_concat_getLast hne).symm⟩
    have hc := hd c (by simp)
    rw [val_snoc]
    cases l' with
    | nil =>
      have : numL (c - 48) = [48 + (c - 48)] := numL_lt (by omega)
      have e : NumText.digitsVal [] = 0 := rfl
      rw [e, Nat.zero_mul, Nat.zero_add, this, show 48 + (c - 48) = c by omega]
      rfl
    | cons a r =>
      have ha := hd a (by simp)
      have h48 : a ≠ 48 := fun e => by
        subst e
        rcases h0 with h0 | h0
        · cases r <;> cases h0
        · exact h0 rfl
      have p : 1 ≤ NumText.digitsVal (a :: r) := val_pos (by omega)
      have ih := numL_back n (a :: r) (by simp at hl ⊢; omega) (by simp) (fun x hx => hd x (List.mem_append_left _ hx)) (.inr fun e => h48 (by simpa using e))
      rw [numL_step (by omega), show (NumText.digitsVal (a :: r) * 10 + (c - 48)) / 10 = NumText.digitsVal (a :: r) by omega, ih,
        show 48 + (NumText.digitsVal (a :: r) * 10 + (c - 48)) % 10 = c by omega]
theorem fig_back {w : Str} (h : isFig w = true) : w = nst (val w) := by
  unfold isFig at h
  simp only [Bool.and_eq_true, Bool.or_eq_true, decide_eq_true_eq] at h
  obtain ⟨h1, h2, h3, h4⟩ := h
  refine ext_tl ?_
  rw [tl_num]
  exact (numL_back _ (tl w) rfl (by intro e; rw [e] at h1; simp at h1) (all_dig h3) h4).symm
theorem fig_int {w : Str} (h : isFig w = true) : PySem.intText? w = some ((val w : Nat) : Int) := by
  unfold isFig at h
  simp only [Bool.and_eq_true, Bool.or_eq_true, decide_eq_true_eq] at h
  obtain ⟨h1, h2, h3, h4⟩ := h
  exact intText_digits (all_dig h3) (by intro e; rw [show tl w = [] from e] at h1; simp at h1) (by rw [len_tl]; omega)
theorem fig_len {w : Str} (h : isFig w = true) : w.length ≤ 60 := by
  unfold isFig at h
  simp only [Bool.and_eq_true, Bool.or_eq_true, decide_eq_true_eq] at h
  rw [len_tl]
  exact h.2.1
theorem lt_pow_len (l : List Nat) (h : NumText.AllDigits l) : NumText.digitsVal l < 10 ^ l.length := by
  suffices ∀ (l : List Nat) (a : Nat), NumText.AllDigits l → l.foldl (fun acc c => acc * 10 + (c - 48)) a < (a + 1) * 10 ^ l.length by
    have := this l 0 h
    rw [Nat.zero_add, Nat.one_mul] at this
    exact this
  intro l
  induction l with
  | nil => intro a _; simp
  | cons c l ih =>
    intro a h
    have hc := h.head
    rw [List.foldl_cons]
    refine Nat.lt_of_lt_of_le (ih _ h.tail) ?_
    rw [List.length_cons, Nat.pow_succ, Nat.mul_comm (10 ^ l.length) 10, ← Nat.mul_assoc]
    exact Nat.mul_le_mul_right _ (by omega)
theorem fig_lt {w : Str} (h : isFig w = true) : val w < 10 ^ 60 := by
  have h2 := fig_len h
  unfold isFig at h
  simp only [Bool.and_eq_true, Bool.or_eq_true, decide_eq_true_eq] at h
  refine Nat.lt_of_lt_of_le (lt_pow_len _ (all_dig h.2.2.1)) (Nat.pow_le_pow_right (by decide) ?_)
  rw [← len_tl]
  exact h2
/-! formulas -/
inductive F where
  | most (a b : Nat) | rest (a b c : Nat) | nt (f : F) | two (k : Bool) (f g : F)
abbrev dI (n : Nat) : D := .int ((n : Nat) : Int)
def tw (k : Bool) : Str := if k = true then "and" else "or"
def F.d : F → D
  | .most a b => .tup [.str "most", dI a, dI b]
  | .rest a b c => .tup [.str "rest", dI a, dI b, dI c]
  | .nt f => .tup [.str "not", f.d]
  | .two k f g => .tup [.str (tw k), f.d, g.d]
def F.w : F → List Str
  | .most a b => ["most", nst a, nst b]
  | .rest a b c => ["rest", nst a, nst b, nst c]
  | .nt f => "not" :: f.w
  | .two k f g => tw k :: (f.w ++ g.w)
def F.dep : F → Nat
  | .most _ _ => 1
  | .rest _ _ _ => 1
  | .nt f => f.dep + 1
  | .two _ f g => max f.dep g.dep + 1
/-- numbers are small -/
def F.sm : F → Prop
  | .most a b => a < 10 ^ 60 ∧ b < 10 ^ 60
  | .rest a b c => a < 10 ^ 60 ∧ b < 10 ^ 60 ∧ c < 10 ^ 60
  | .nt f => f.sm
  | .two _ f g => f.sm ∧ g.sm
/-- one number -/
def num1 : List Str → Except Str (Nat × List Str)
  | [] => .error "length"
  | w :: ws => if isFig w = true then .ok (val w, ws) else .error "number"
/-- the parser: n more levels are allowed -/
def pf : Nat → List Str → Except Str (F × List Str)
  | _, [] => .error "length"
  | 0, _ :: _ => .error "depth"
  | n + 1, w :: ws =>
    if w = "most" then (match num1 ws with
      | .error e => .error e
      | .ok (a, r) => (match num1 r with
        | .error e => .error e
        | .ok (b, r) => .ok (.most a b, r)))
    else if w = "rest" then (match num1 ws with
      | .error e => .error e
      | .ok (a, r) => (match num1 r with
        | .error e => .error e
        | .ok (b, r) => (match num1 r with
          | .error e => .error e
          | .ok (c, r) => .ok (.rest a b c, r))))
    else if w = "not" then (match pf n ws with
      | .error e => .error e
      | .ok (f, r) => .ok (.nt f, r))
    else if w = "and" then (match pf n ws with
      | .error e => .error e
      | .ok (f, r) => (match pf n r with
        | .error e => .error e
        | .ok (g, r) => .ok (.two true f g, r)))
    else if w = "or" then (match pf n ws with
      | .error e => .error e
      | .ok (f, r) => (match pf n r with
        | .error e => .error e
        | .ok (g, r) => .ok (.two false f g, r)))
    else .error "word"
theorem num1_ok {ws r : List Str} {a : Nat} (h : num1 ws = .ok (a, r)) : ws = nst a :: r ∧ a < 10 ^ 60 ∧ (nst a).length ≤ 60 ∧ PySem.intText? (nst a) = some (a : Int) := by
  cases ws with
  | nil => cases h
  | cons w ws =>
    have h : (if isFig w = true then .ok (val w, ws) else .error "number" : Except Str (Nat × List Str)) = .ok (a, r) := h
    by_cases f : isFig w = true
    · rw [if_pos f] at h
      have h1 := Except.ok.inj h
      have e1 : val w = a := congrArg (·.1) h1
      have e2 : ws = r := congrArg (·.2) h1
      subst e1 e2
      have e := fig_back f
      refine ⟨by rw [← e], fig_lt f, ?_, ?_⟩
      · rw [← e]; exact fig_len f
      · rw [← e]; exact fig_int f
    · rw [if_neg f] at h
      cases h
theorem pf_ok : ∀ {n : Nat} {ws r : List Str} {f : F}, pf n ws = .ok (f, r) → ws = f.w ++ r ∧ f.sm ∧ f.dep ≤ n
  | n, [], r, f, h => by cases n <;> cases h
  | 0, _ :: _, r, f, h => by cases h
  | n + 1, w :: ws, r, f, h => by
    unfold pf at h
    split at h
    · rename_i e
      subst e
      split at h
      · cases h
      · rename_i a r1 h1
        split at h
        · cases h
        · rename_i b r2 h2
          cases h
          obtain ⟨rfl, s1, _⟩ := num1_ok h1
          obtain ⟨rfl, s2, _⟩ := num1_ok h2
          exact ⟨rfl, ⟨s1, s2⟩, Nat.succ_le_succ (Nat.zero_le _)⟩
    split at h
    · rename_i e
      subst e
      split at h
      · cases h
      · rename_i a r1 h1
        split at h
        · cases h
        · rename_i b r2 h2
          split at h
          · cases h
          · rename_i c r3 h3
            cases h
            obtain ⟨rfl, s1, _⟩ := num1_ok h1
            obtain ⟨rfl, s2, _⟩ := num1_ok h2
            obtain ⟨rfl, s3, _⟩ := num1_ok h3
            exact ⟨rfl, ⟨s1, s2, s3⟩, Nat.succ_le_succ (Nat.zero_le _)⟩
    split at h
    · rename_i e
      subst e
      split at h
      · cases h
      · rename_i f r1 h1
        cases h
        obtain ⟨rfl, s1, d1⟩ := pf_ok h1
        exact ⟨rfl, s1, Nat.succ_le_succ d1⟩
    split at h
    · rename_i e
      subst e
      split at h
      · cases h
      · rename_i f r1 h1
        split at h
        · cases h
        · rename_i g r2 h2
          cases h
          obtain ⟨rfl, s1, d1⟩ := pf_ok h1
          obtain ⟨rfl, s2, d2⟩ := pf_ok h2
          refine ⟨?_, ⟨s1, s2⟩, Nat.succ_le_succ (by omega)⟩
          show _ = (("and" : Str) :: (f.w ++ g.w)) ++ r
          rw [List.cons_append, List.append_assoc]
    split at h
    · rename_i e
      subst e
      split at h
      · cases h
      · rename_i f r1 h1
        split at h
        · cases h
        · rename_i g r2 h2
          cases h
          obtain ⟨rfl, s1, d1⟩ := pf_ok h1
          obtain ⟨rfl, s2, d2⟩ := pf_ok h2
          refine ⟨?_, ⟨s1, s2⟩, Nat.succ_le_succ (by omega)⟩
          show _ = (("or" : Str) :: (f.w ++ g.w)) ++ r
          rw [List.cons_append, List.append_assoc]
    · cases h
/-- the law's own reading: the stack of levels -/
def due : List Nat → List Str → Str
  | [], [] => ""
  | [], _ :: _ => "length"
  | _ :: _, [] => "length"
  | 0 :: s, w :: ws => if isFig w = true then due s ws else "number"
  | (l + 1) :: s, w :: ws => if 8 < l + 1 then "depth" else if w = "not" then due ((l + 2) :: s) ws else if w = "and" ∨ w = "or" then due ((l + 2) :: (l + 2) :: s) ws
    else if w = "most" then due (0 :: 0 :: s) ws else if w = "rest" then due (0 :: 0 :: 0 :: s) ws else "word"
theorem due_z (s : List Nat) (w : Str) (ws : List Str) : due (0 :: s) (w :: ws) = if isFig w = true then due s ws else "number" := by rw [due]
theorem due_s (l : Nat) (s : List Nat) (w : Str) (ws : List Str) : due ((l + 1) :: s) (w :: ws) = if 8 < l + 1 then ("depth" : Str) else if w = "not" then due ((l + 2) :: s) ws else if w = "and" ∨ w = "or" then due ((l + 2) :: (l + 2) :: s) ws
    else if w = "most" then due (0 :: 0 :: s) ws else if w = "rest" then due (0 :: 0 :: 0 :: s) ws else "word" := by rw [due]
theorem due0 (s : List Nat) (ws : List Str) : due (0 :: s) ws = match num1 ws with
    | .ok (_, r) => due s r
    | .error e => e := by
  cases ws with
  | nil => rw [due]; rfl
  | cons w ws =>
    rw [due_z, show num1 (w :: ws) = if isFig w = true then .ok (val w, ws) else .error "number" from rfl]
    by_cases f : isFig w = true
    · rw [if_pos f, if_pos f]
    · rw [if_neg f, if_neg f]
theorem due_pf : ∀ (n : Nat) (s : List Nat) (ws : List Str), n ≤ 8 → due ((9 - n) :: s) ws = match pf n ws with
    | .ok (_, r) => due s r
    | .error e => e
  | n, s, [], h => by
    have : ∃ l, 9 - n = l + 1 := ⟨8 - n, by omega⟩
    obtain ⟨l, e⟩ := this
    rw [e]
    cases n <;> rw [due] <;> rfl
  | 0, s, w :: ws, h => by
    show due ((8 + 1) :: s) (w :: ws) = _
    rw [due_s, if_pos (by decide)]
    rfl
  | n + 1, s, w :: ws, h => by
    obtain ⟨l, e⟩ : ∃ l, 9 - (n + 1) = l + 1 := ⟨7 - n, by omega⟩
    have e2 : l + 2 = 9 - n := by omega
    rw [e]
    rw [due_s, pf, if_neg (by omega), e2]
    by_cases w1 : w = "most"
    · subst w1
      rw [if_neg (by decide), if_neg (by decide), if_pos rfl, if_pos rfl, due0]
      cases num1 ws with
      | error e => rfl
      | ok p =>
        obtain ⟨a, r⟩ := p
        show due (0 :: s) r = _
        rw [due0]
        dsimp only
        cases num1 r with
        | error e => rfl
        | ok p => rfl
    rw [if_neg w1, if_neg w1]
    by_cases w2 : w = "rest"
    · subst w2
      rw [if_neg (by decide), if_neg (by decide), if_pos rfl, if_pos rfl, due0]
      cases num1 ws with
      | error e => rfl
      | ok p =>
        obtain ⟨a, r⟩ := p
        show due (0 :: 0 :: s) r = _
        rw [due0]
        dsimp only
        cases num1 r with
        | error e => rfl
        | ok p =>
          obtain ⟨b, r⟩ := p
          show due (0 :: s) r = _
          rw [due0]
          dsimp only
          cases num1 r with
          | error e => rfl
          | ok p => rfl
    rw [if_neg w2, if_neg w2]
    by_cases w3 : w = "not"
    · subst w3
      rw [if_pos rfl, if_pos rfl, due_pf n s ws (by omega)]
      cases pf n ws with
      | error e => rfl
      | ok p => rfl
    rw [if_neg w3, if_neg w3]
    by_cases w4 : w = "and"
    · subst w4
      rw [if_pos (.inl rfl), if_pos rfl, due_pf n _ ws (by omega)]
      cases pf n ws with
      | error e => rfl
      | ok p =>
        obtain ⟨f, r⟩ := p
        show due ((9 - n) :: s) r = _
        rw [due_pf n s r (by omega)]
        dsimp only
        cases pf n r with
        | error e => rfl
        | ok p => rfl
    rw [if_neg w4]
    by_cases w5 : w = "or"
    · subst w5
      rw [if_pos (.inr rfl), if_pos rfl, due_pf n _ ws (by omega)]
      cases pf n ws with
      | error e => rfl
      | ok p =>
        obtain ⟨f, r⟩ := p
        show due ((9 - n) :: s) r = _
        rw [due_pf n s r (by omega)]
        dsimp only
        cases pf n r with
        | error e => rfl
        | ok p => rfl
    rw [if_neg w5, if_neg (by rintro (h | h); exact w4 h; exact w5 h)]
/-- the word that is due -/
theorem due_whole (ws : List Str) : due [1] ws = match pf 8 ws with
    | .ok (_, []) => ""
    | .ok (_, _ :: _) => "length"
    | .error e => e := by
  have e := due_pf 8 [] ws (Nat.le_refl _)
  rw [show 9 - 8 = 1 from rfl] at e
  rw [e]
  cases pf 8 ws with
  | error e => rfl
  | ok p =>
    obtain ⟨f, r⟩ := p
    cases r <;> rfl
end K90
set_option Elab.async false
set_option linter.all false
set_option maxRecDepth 100000
set_option maxHeartbeats 400000
namespace K90
open PySem PySem.Spec PyProof.Rows L2 PL PLX
def dS (cs : List Int) (a b c x : Int) : M := .lst [.lst (cs.map .int), .int a, .int b, .int c, .int x]
def DSt (m : M) : Prop := ∃ cs a b c x, m = dS cs a b c x ∧ 0 ≤ a
abbrev vb (m : M) : Option Sv := some (.bor m)
section
variable {P : Sv → Option M → Prop} {PX : Exn → Option M → Prop} {m : M} {n : Int}
theorem at_int {cs : List Int} {a : Int} (h0 : 0 ≤ a) (h1 : a < cs.length) : ∃ v, cs[a.toNat]? = some v ∧ atI (cs.map D.int) a = some (.int v) := by
  have hl : a.toNat < cs.length := by omega
  refine ⟨cs[a.toNat], by simp [hl], ?_⟩
  unfold atI ixN
  rw [if_pos h0, if_pos (by rw [List.length_map]; exact h1)]
  simp [hl]
theorem cdiv {i : Int} (h0 : 0 < n) (hn : n < 2 ^ 30) : CDivW i n := ⟨h0, by
  have : Sm 30 n := by unfold Sm; omega
  have := this.log (by decide)
  omega⟩
theorem w_draw (hm : DSt m) (h0 : 0 < n) (hn : n < 2 ^ 30) (h : ∀ r m', DSt m' → 0 ≤ r → r < n → P (.val (.int r)) (some m')) : sp__law_draw (some m) [.int n] P PX := by
  unfold sp__law_draw
  refine ⟨⟨rfl, rfl⟩, ?_⟩
  obtain ⟨cs, a, b, c, x, rfl, ha⟩ := hm
  have fin : ∀ (v : Int) cs a b c x, 0 ≤ a → P (.val (.int (v % n))) (some (dS cs a b c x)) := fun v cs a b c x ha => h _ _ ⟨cs, a, b, c, x, rfl, ha⟩ (Int.emod_nonneg _ (by omega)) (Int.emod_lt_of_pos _ h0)
  refine ⟨⟨_, rfl⟩, _, rfl, ?_⟩
  refine ifd (fun h1 => ?_) (fun h1 => ?_)
  · refine ⟨⟨_, rfl⟩, _, rfl, nb rfl, ?_⟩
    refine norm [vb (dS cs a b c x), vi n, vi b, v0, v0] rfl ?_
    refine ⟨cdiv h0 hn, _, rfl, ⟨_, rfl, rfl⟩, _, _, _, _, rfl, rfl, rfl, rfl, ?_⟩
    refine norm [vb (dS cs a (b / n) c x), vi n, vi b, v0, v0] rfl ?_
    exact ⟨h0, trivial, fin b cs a (b / n) c x ha⟩
  refine ⟨nb rfl, ?_⟩
  refine norm [vb (dS cs a b c x), vi n, v0, vi 0, v0] rfl ?_
  have tail : ∀ (s : Int) o, (sSeq (sAugIx 0 (pC (.int 1)) (pC (.int 1)))
  (sSeq (sIf (pB (pOp (cmpB .GtE) (pVar 3) (pF (pOp (opB .Mult) (pC (.int 2)) (pF (pOp (opB .Pow) (pC (.int 10)) (pF (pC (.int 18)))))))))
    (sSeq (sAsg (pOp (opB .Mod) (pBlt .int_ (pLast (pF (pOp (opB .FloorDiv) (pVar 3) (pF (pC (.int 2))))))) (pF (pOp (opB .LShift) (pC (.int 1)) (pF (pC (.int 6000)))))) (gP 2))
    (sSeq (sAsg (pOp (opB .FloorDiv) (pVar 2) (pPk 1)) (gIx 0 (pC (.int 2))))
    (sRet (pOp (opB .Mod) (pBlt .int_ (pLast (pPk 2))) (pPk 1)))))
    sNext)
  (sSeq (sAsg (pOp (opB .Mod) (pBlt .int_ (pLast (pF (pOp (opB .Add) (pOp (opB .Add) (pOp (opB .Add) (pOp (opB .Mult) (pIxN 0 (pF (pC (.int 3)))) (pF (pC (.int 48271)))) (pF (pOp (opB .Mult) (pOp (opB .Mod) (pBlt .int_ (pLast (pPk 3))) (pF (pC (.int 2147483629)))) (pF (pC (.int 16807)))))) (pF (pOp (opB .Mult) (pIxN 0 (pF (pC (.int 1)))) (pF (pC (.int 69621)))))) (pF (pC (.int 11))))))) (pF (pC (.int 2147483647)))) (gIx 0 (pC (.int 3))))
  (sRet (pOp (opB .Mod) (pBlt .int_ (pLast (pF (pOp (opB .FloorDiv) (pIxN 0 (pF (pC (.int 3)))) (pF (pC (.int 16))))))) (pPk 1))))))
      { nx := fun e => finR true e (P (.val .non)), rt := fun sv e => isOut sv ∧ finR true e (P sv), bk := fun _ => False, ct := fun _ => False } [vb (dS cs a b c x), vi n, v0, vi s, o] := fun s o => by
    refine ⟨⟨_, rfl, rfl⟩, 1, _, _, a, rfl, by decide, rfl, rfl, rfl, _, _, _, _, rfl, rfl, rfl, rfl, ?_⟩
    refine norm [vb (dS cs (a + 1) b c x), vi n, v0, vi s, o] rfl ?_
    refine ⟨⟨by decide, by decide, by decide⟩, cml (by decide), ?_⟩
    refine ifd (fun h1 => ?_) (fun h1 => ?_)
    · refine ⟨cdiv (by decide) (by decide), ⟨by decide, by decide, by decide⟩, Int.mul_pos (by decide) (Int.pow_pos (by decide)), nb rfl, ?_⟩
      generalize (s / 2 % (1 * 2 ^ (6000 : Int).toNat)) = v
      refine norm [vb (dS cs (a + 1) b c x), vi n, vi v, vi s, o] rfl ?_
      refine ⟨cdiv h0 hn, _, rfl, ⟨_, rfl, rfl⟩, _, _, _, _, rfl, rfl, rfl, rfl, ?_⟩
      refine norm [vb (dS cs (a + 1) (v / n) c x), vi n, vi v, vi s, o] rfl ?_
      exact ⟨h0, trivial, fin v _ _ _ _ _ (by omega)⟩
    · refine ⟨⟨_, rfl⟩, _, rfl, cmr (by decide), by decide, cmr (by decide), ⟨_, rfl⟩, _, rfl, cmr (by decide), by decide, ?_⟩
      refine ⟨_, rfl, ⟨_, rfl, rfl⟩, _, _, _, _, rfl, rfl, rfl, rfl, ?_⟩
      generalize ((c * 48271 + s % 2147483629 * 16807 + (a + 1) * 69621 + 11) % 2147483647) = v
      refine norm [vb (dS cs (a + 1) b v x), vi n, v0, vi s, o] rfl ?_
      exact ⟨⟨_, rfl⟩, _, rfl, cdiv (by decide) (by decide), h0, trivial, fin _ _ _ _ _ _ (by omega)⟩
  refine ⟨⟨_, rfl⟩, _, rfl, ⟨_, rfl⟩, _, rfl, ?_⟩
  refine ifd (fun h2 => ?_) (fun h2 => ?_)
  · have h2 : a < ((cs.map D.int).length : Nat) := h2
    rw [List.length_map] at h2
    obtain ⟨v, _, hv⟩ := at_int ha h2
    refine ⟨⟨_, rfl⟩, _, rfl, ⟨_, rfl⟩, _, rfl, _, hv, nb rfl, ?_⟩
    refine norm [vb (dS cs a b c x), vi n, v0, vi 0, vi v] rfl ?_
    refine ⟨cml (by decide), nb rfl, ?_⟩
    exact tail _ _
  · exact tail 0 _
end
end K90
set_option Elab.async false
set_option linter.all false
set_option maxRecDepth 100000
set_option maxHeartbeats 400000
namespace K90
open PySem PySem.Spec PyProof.Rows L2 PL PLX TL
section
variable {P : Sv → Option M → Prop} {PX : Exn → Option M → Prop} {m : M}
abbrev sD (ws : List Str) : List D := ws.map D.str
abbrev bx (l : Int) (r : Str) : Exn := ⟨"BadText", [("reason", .str r), ("line", .int l)]⟩
theorem figs (c : Nat) : (decide (c ∈ (("0123456789" : Str)).cps.toList)) = dig c := by
  have e : (("0123456789" : Str)).cps.toList = [48, 49, 50, 51, 52, 53, 54, 55, 56, 57] := by decide +kernel
  rw [e]
  unfold dig
  by_cases h : 48 ≤ c ∧ c ≤ 57
  · have : c = 48 ∨ c = 49 ∨ c = 50 ∨ c = 51 ∨ c = 52 ∨ c = 53 ∨ c = 54 ∨ c = 55 ∨ c = 56 ∨ c = 57 := by omega
    rcases this with e | e | e | e | e | e | e | e | e | e <;> subst e <;> decide
  · have h1 : (decide (48 ≤ c) && decide (c ≤ 57)) = false := by
      rw [Bool.and_eq_false_iff]
      by_cases z : 48 ≤ c
      · exact .inr (decide_eq_false fun y => h ⟨z, y⟩)
      · exact .inl (decide_eq_false z)
    rw [h1]
    refine decide_eq_false fun hm => h ?_
    simp only [List.mem_cons, List.not_mem_nil, or_false] at hm
    omega
theorem tl0 : tl (("0" : Str)) = [48] := by decide +kernel
theorem eq0 (w : Str) : (w = ("0" : Str)) ↔ tl w = [48] := ⟨fun e => by rw [e]; exact tl0, fun e => ext_tl (e.trans tl0.symm)⟩
/-- the end of both: w == '0' or w[0] != '0' -/
theorem fin_fig {w : Str} {o : Option Sv} {Q : Sv → PEnv → Prop} (hl : w.length ≤ sizeLine) (hp : 0 < (tl w).length) (h : Q (.val (.bl (decide (tl w = [48]) || decide ((tl w).head? ≠ some 48)))) [vd (.str w), o]) :
    pOrV (pOp (cmpB .Eq) (pVar 0) (pF (pC (.str "0")))) (pOp (cmpB .NotEq) (pIxN 0 (pF (pC (.int 0)))) (pF (pC (.str "0")))) [vd (.str w), o] Q := by
  obtain ⟨c, r, hw⟩ : ∃ c r, tl w = c :: r := by
    cases e : tl w with
    | nil => rw [e] at hp; exact absurd hp (by decide)
    | cons c r => exact ⟨c, r, rfl⟩
  refine ⟨_, rfl, ?_⟩
  refine if2 (fun h1 => ?_) (fun h1 => ?_)
  · have h1 := (eq0 w).mp (of_decide_eq_true h1)
    rw [decide_eq_true h1, Bool.true_or] at h
    exact h
  · have h1 : ¬ tl w = [48] := fun e => of_decide_eq_false h1 ((eq0 w).mpr e)
    rw [decide_eq_false h1, Bool.false_or] at h
    refine ⟨⟨_, rfl⟩, hl, c, ?_, _, rfl, ?_⟩
    · show atI (tl w) 0 = some c
      rw [hw]
      unfold atI ixN
      rw [if_pos (by decide), if_pos (by simp)]
      rfl
    · have e : (decide ((tl w).head? ≠ some 48)) = !decide ((⟨#[c]⟩ : Str) = ("0" : Str)) := by
        rw [hw]
        show decide (some c ≠ some 48) = _
        by_cases z : c = 48
        · subst z
          rw [decide_eq_false (by simp), decide_eq_true (by decide +kernel)]
          rfl
        · rw [decide_eq_true (by simpa using z), decide_eq_false]
          · rfl
          · intro y
            have := congrArg tl y
            rw [tl0] at this
            exact z (by simpa [tl] using this)
      rw [e] at h
      exact h
theorem len_nat (w : Str) : w.length = (tl w).length := len_tl w
theorem w_is_figures {w : Str} (hl : w.length ≤ sizeLine) (h : P (.val (.bl (isFig w))) none) : sp_is_figures none [.str w] P PX := by
  unfold sp_is_figures
  refine ⟨⟨rfl, rfl⟩, ?_⟩
  refine ⟨hl, _, rfl, ?_⟩
  have no : ∀ b : Bool, b = false → isFig w = b → P (.val (.bl false)) none := fun b hb e => by rw [e, hb] at h; exact h
  refine if2 (fun h1 => ?_) (fun h1 => ?_)
  · refine ⟨trivial, no _ rfl ?_⟩
    have h1 : ((w.length : Nat) : Int) = 0 := of_decide_eq_true h1
    unfold isFig
    rw [decide_eq_false (by rw [← len_nat]; omega)]
    rfl
  have h1 : ¬ ((w.length : Nat) : Int) = 0 := of_decide_eq_false h1
  refine ⟨hl, ?_⟩
  refine ifd (fun h2 => ?_) (fun h2 => ?_)
  · refine ⟨trivial, no _ rfl ?_⟩
    unfold isFig
    rw [decide_eq_false (by rw [← len_nat]; omega : ¬ (tl w).length ≤ 60), Bool.false_and, Bool.and_false]
  have e1 : isFig w = ((tl w).all dig && (decide (tl w = [48]) || decide ((tl w).head? ≠ some 48))) := by
    unfold isFig
    rw [decide_eq_true (by rw [← len_nat]; omega : 0 < (tl w).length), decide_eq_true (by rw [← len_nat]; omega : (tl w).length ≤ 60), Bool.true_and, Bool.true_and]
  rw [e1] at h
  refine forL_ix (fun i e => (∀ (j : Nat) c, j < i → (tl w)[j]? = some c → dig c = true) ∧ ∃ o, e = [vd (.str w), o] ∧ isBor (some o) = false) ⟨fun j c hj => absurd hj (Nat.not_lt_zero j), _, rfl, rfl⟩ (fun i d e N hi hI hN => ?_) (fun e hI => ?_)
  · obtain ⟨hI, o, rfl, ho⟩ := hI
    rw [List.getElem?_map] at hi
    cases hc : (tl w)[i]? with
    | none => rw [show w.cps.toList[i]? = none from hc] at hi; cases hi
    | some c =>
      rw [show w.cps.toList[i]? = some c from hc] at hi
      cases hi
      refine ⟨nb ho, c, rfl, ?_⟩
      rw [figs]
      refine if2 (fun h3 => ?_) (fun h3 => ?_)
      · refine ⟨trivial, ?_⟩
        have : (tl w).all dig = false := by
          rw [List.all_eq_false]
          exact ⟨c, List.mem_of_getElem? hc, by simpa using h3⟩
        rw [this] at h
        exact h
      · refine hN _ ⟨fun j x hj hx => ?_, _, rfl, rfl⟩
        by_cases e : j = i
        · subst e
          rw [hc] at hx
          cases hx
          simpa using h3
        · exact hI j x (by omega) hx
  · obtain ⟨hI, o, rfl, ho⟩ := hI
    have all : (tl w).all dig = true := by
      rw [List.all_eq_true]
      intro x hx
      obtain ⟨j, hj, e⟩ := List.mem_iff_getElem.mp hx
      exact hI j x (by simpa using hj) (by rw [List.getElem?_eq_getElem hj, e])
    rw [all, Bool.true_and] at h
    exact fin_fig hl (by rw [← len_nat]; omega) ⟨trivial, h⟩
theorem w_law_is_figures {w : Str} (hl : w.length ≤ sizeLine) (h : P (.val (.bl (isFig w))) none) : sp__law_is_figures none [.str w] P PX := by
  unfold sp__law_is_figures
  refine ⟨⟨rfl, rfl⟩, ?_⟩
  refine ⟨hl, _, rfl, ?_⟩
  have no : ∀ b : Bool, b = false → isFig w = b → P (.val (.bl false)) none := fun b hb e => by rw [e, hb] at h; exact h
  refine if2 (fun h1 => ?_) (fun h1 => ?_)
  · refine ⟨trivial, no _ rfl ?_⟩
    have h1 : ((w.length : Nat) : Int) = 0 := of_decide_eq_true h1
    unfold isFig
    rw [decide_eq_false (by rw [← len_nat]; omega)]
    rfl
  have h1 : ¬ ((w.length : Nat) : Int) = 0 := of_decide_eq_false h1
  refine ⟨hl, ?_⟩
  refine ifd (fun h2 => ?_) (fun h2 => ?_)
  · refine ⟨trivial, no _ rfl ?_⟩
    unfold isFig
    rw [decide_eq_false (by rw [← len_nat]; omega : ¬ (tl w).length ≤ 60), Bool.false_and, Bool.and_false]
  have e1 : isFig w = ((tl w).all dig && (decide (tl w = [48]) || decide ((tl w).head? ≠ some 48))) := by
    unfold isFig
    rw [decide_eq_true (by rw [← len_nat]; omega : 0 < (tl w).length), decide_eq_true (by rw [← len_nat]; omega : (tl w).length ≤ 60), Bool.true_and, Bool.true_and]
  rw [e1] at h
  refine lcL_ix (fun i acc e => acc = ((tl w).take i).map (fun c => D.bl (dig c)) ∧ ∃ o, e = [vd (.str w), o] ∧ isBor (some o) = false) ⟨rfl, _, rfl, rfl⟩ (fun i d acc e N hi hI hN => ?_) (fun acc e hI => ?_)
  · obtain ⟨rfl, o, rfl, ho⟩ := hI
    rw [List.getElem?_map] at hi
    cases hc : (tl w)[i]? with
    | none => rw [show w.cps.toList[i]? = none from hc] at hi; cases hi
    | some c =>
      rw [show w.cps.toList[i]? = some c from hc] at hi
      cases hi
      refine ⟨nb rfl, ?_⟩
      refine ⟨c, rfl, ?_⟩
      rw [figs]
      have hil := (List.getElem?_eq_some_iff.mp hc).1
      refine ⟨?_, hN _ _ ⟨?_, _, rfl, rfl⟩⟩
      · rw [List.length_map, List.length_take]
        rw [← len_nat] at hil
        omega
      · rw [List.take_add_one, hc, List.map_append]
        rfl
  · obtain ⟨rfl, o, rfl, ho⟩ := hI
    rw [List.length_map, show w.cps.toList = tl w from rfl, List.take_length]
    refine ⟨(tl w).map dig, by rw [List.map_map]; rfl, ?_⟩
    have e2 : ((tl w).map dig).all id = (tl w).all dig := by rw [List.all_map]; rfl
    rw [e2]
    refine if2 (fun h3 => ?_) (fun h3 => ?_)
    · have h3 : (tl w).all dig = false := by simpa using h3
      rw [h3] at h
      exact ⟨trivial, h⟩
    · have h3 : (tl w).all dig = true := by simpa using h3
      rw [h3, Bool.true_and] at h
      exact fin_fig hl (by rw [← len_nat]; omega) ⟨trivial, h⟩
end
end K90
set_option Elab.async false
set_option linter.all false
set_option maxRecDepth 100000
set_option maxHeartbeats 400000
namespace K90
open PySem PySem.Spec PyProof.Rows L2 PL PLX TL
section
variable {P : Sv → Option M → Prop} {PX : Exn → Option M → Prop} {m : M}
theorem at_nat {ds : List D} {p : Nat} {d : D} (h : ds[p]? = some d) : atI ds (p : Int) = some d := by
  have hl := (List.getElem?_eq_some_iff.mp h).1
  unfold atI ixN
  rw [if_pos (by omega), if_pos (by omega)]
  simpa using h
theorem w_count_in {w : Str} {l : Int} (hl : w.length ≤ sizeLine) (h1 : isFig w = true → P (.val (dI (val w))) none) (h2 : isFig w = false → PX (bx l "number") none) : sp_count_in none [.str w, .int l] P PX := by
  unfold sp_count_in
  refine ⟨⟨rfl, rfl⟩, ?_⟩
  refine w_is_figures hl ⟨trivial, ?_⟩
  refine if2 (fun h => ?_) (fun h => ?_)
  · exact ⟨rfl, h2 (by simpa using h)⟩
  · have h : isFig w = true := by simpa using h
    have := fig_len h
    exact ⟨_, fig_int h, by omega, trivial, h1 h⟩
theorem w_word_at {ws : List Str} {p : Nat} (hp : p ≤ ws.length) (h : match ws.drop p with
    | [] => PX (bx 1 "length") none
    | w :: _ => P (.val (.str w)) none) : sp_word_at none [.lst (sD ws), .int (p : Int)] P PX := by
  unfold sp_word_at
  refine ⟨⟨rfl, rfl⟩, ?_⟩
  refine ⟨_, rfl, ?_⟩
  refine ifd (fun h1 => ?_) (fun h1 => ?_)
  · have h1 : (p : Int) = ((sD ws).length : Nat) := h1
    rw [List.length_map] at h1
    rw [List.drop_eq_nil_of_le (by omega)] at h
    exact ⟨rfl, h⟩
  · have h1 : ¬ (p : Int) = ((sD ws).length : Nat) := h1
    rw [List.length_map] at h1
    have hlt : p < ws.length := by omega
    rw [List.drop_eq_getElem_cons hlt] at h
    refine ⟨⟨_, rfl⟩, _, at_nat (by rw [List.getElem?_map, List.getElem?_eq_getElem hlt]; rfl), trivial, h⟩
theorem drop1 {ws r : List Str} {p : Nat} {w : Str} (h : ws.drop p = w :: r) : ws.drop (p + 1) = r ∧ p < ws.length ∧ ws[p]? = some w := by
  have hl : p < ws.length := by
    have := congrArg List.length h
    rw [List.length_drop, List.length_cons] at this
    omega
  refine ⟨?_, hl, ?_⟩
  · rw [← List.drop_drop, h]
    rfl
  · have := congrArg (fun l => l[0]?) h
    simpa using this
/-- one number of an atom -/
theorem w_num {ws : List Str} {p : Nat} {xc : XC} {e : PEnv} {P : Sv → PEnv → Prop} (hs : ∀ w ∈ ws, w.length ≤ sizeLine) (hp : p ≤ ws.length) (h0 : e[0]? = some (some (.val (.lst (sD ws))))) (h4 : e[4]? = some (some (.val (.int (p : Int))))) (h : match num1 (ws.drop p) with
    | .error x => xc (bx 1 x) e
    | .ok (a, _) => P (.val (dI a)) e) : pCall sp_count_in xc (pCons (pCall sp_word_at xc (pCons (pVar 0) (pCons (pVar 4) pNil))) (pCons (pC (.int 1)) pNil)) e P := by
  unfold pCall pCons pNil pF pVar
  dsimp only
  rw [h0]
  dsimp only [Sv.fz]
  rw [h4]
  dsimp only [Sv.fz]
  refine w_word_at hp ?_
  cases hd : ws.drop p with
  | nil =>
    rw [hd] at h
    exact h
  | cons w r =>
    rw [hd] at h
    have hw : w ∈ ws := by
      have : w ∈ ws.drop p := by rw [hd]; exact List.mem_cons_self
      exact List.mem_of_mem_drop this
    have h : (match (if isFig w = true then .ok (val w, r) else .error "number" : Except Str (Nat × List Str)) with
      | .error x => xc (bx 1 x) e
      | .ok (a, _) => P (.val (dI a)) e) := h
    refine ⟨trivial, w_count_in (hs w hw) (fun f => ⟨trivial, ?_⟩) (fun f => ?_)⟩
    · rw [if_pos f] at h
      exact h
    · rw [if_neg (by rw [f]; decide)] at h
      exact h
theorem sd_at {ws r : List Str} {p : Nat} {w : Str} (h : ws.drop p = w :: r) : (sD ws)[p]? = some (.str w) := by
  rw [List.getElem?_map, (drop1 h).2.2]
  rfl
abbrev vl (ds : List D) : Option Sv := some (.own (.lst ds))
/-- one turn of the numbers' loop -/
theorem num_turn {ws : List Str} {q : Nat} {xc : XC} {a1 a2 a4 : Option Sv} {acc : List D} {N : PEnv → Prop} {rt bk ct} (hs : ∀ w ∈ ws, w.length ≤ sizeLine) (hq : q ≤ ws.length) (hacc : acc.length < 1000) (h4 : isBor (some a4) = false) (h : match num1 (ws.drop q) with
    | .error x => xc (bx 1 x) [vd (.lst (sD ws)), a1, a2, vl acc, vi (q : Int)]
    | .ok (a, _) => N [vd (.lst (sD ws)), a1, a2, vl (acc ++ [dI a]), vi (q : Int)]) :
    gP 4 (.val (.int (q : Int))) [vd (.lst (sD ws)), a1, a2, vl acc, a4] fun e1 => sDrop (pAppend 3 (pCall sp_count_in xc (pCons (pCall sp_word_at xc (pCons (pVar 0) (pCons (pVar 4) pNil))) (pCons (pC (.int 1)) pNil)))) { nx := N, rt := rt, bk := bk, ct := ct } e1 := by
  refine ⟨nb h4, ?_⟩
  refine norm [vd (.lst (sD ws)), a1, a2, vl acc, vi (q : Int)] rfl ?_
  refine ⟨⟨_, rfl, rfl⟩, ?_⟩
  refine w_num (e := [vd (.lst (sD ws)), a1, a2, vl acc, vi (q : Int)]) hs hq rfl rfl ?_
  cases hn : num1 (ws.drop q) with
  | error x => rw [hn] at h; exact h
  | ok z =>
    obtain ⟨a, r⟩ := z
    rw [hn] at h
    exact ⟨_, _, rfl, rfl, Nat.lt_of_lt_of_le hacc (sl (n := 1000) (by decide)), h⟩
theorem num1_drop {ws r : List Str} {q a : Nat} (h : num1 (ws.drop q) = .ok (a, r)) : ws.drop (q + 1) = r ∧ q < ws.length := by
  have := (num1_ok h).1
  have := drop1 this
  exact ⟨this.1, this.2.1⟩
def atomOut (w : Str) (r : List Str) (k : Except Str (F × List Str) → Prop) : Prop := k (pf 1 (w :: r))
theorem pf_most (n : Nat) (r : List Str) : pf (n + 1) (("most" : Str) :: r) = (match num1 r with
      | .error e => .error e
      | .ok (a, r) => (match num1 r with
        | .error e => .error e
        | .ok (b, r) => .ok (.most a b, r))) := by
  rw [pf, if_pos rfl] <;> rfl
theorem pf_rest (n : Nat) (r : List Str) : pf (n + 1) (("rest" : Str) :: r) = (match num1 r with
      | .error e => .error e
      | .ok (a, r) => (match num1 r with
        | .error e => .error e
        | .ok (b, r) => (match num1 r with
          | .error e => .error e
          | .ok (c, r) => .ok (.rest a b c, r)))) := by
  rw [pf, if_neg (by decide), if_pos rfl] <;> rfl
theorem rng2 (p : Int) : rangeD (p + 1) (p + 1 + 2 - (p + 1)).toNat = [.int (p + 1), .int (p + 2)] := by
  have e : (p + 1 + 2 - (p + 1)).toNat = 2 := by omega
  rw [e]
  show [D.int (p + 1 + ((0 : Nat) : Int)), D.int (p + 1 + ((1 : Nat) : Int))] = _
  have e1 : p + 1 + ((0 : Nat) : Int) = p + 1 := by omega
  have e2 : p + 1 + ((1 : Nat) : Int) = p + 2 := by omega
  rw [e1, e2]
theorem rng3 (p : Int) : rangeD (p + 1) (p + 1 + 3 - (p + 1)).toNat = [.int (p + 1), .int (p + 2), .int (p + 3)] := by
  have e : (p + 1 + 3 - (p + 1)).toNat = 3 := by omega
  rw [e]
  show [D.int (p + 1 + ((0 : Nat) : Int)), D.int (p + 1 + ((1 : Nat) : Int)), D.int (p + 1 + ((2 : Nat) : Int))] = _
  have e1 : p + 1 + ((0 : Nat) : Int) = p + 1 := by omega
  have e2 : p + 1 + ((1 : Nat) : Int) = p + 2 := by omega
  have e3 : p + 1 + ((2 : Nat) : Int) = p + 3 := by omega
  rw [e1, e2, e3]
theorem w_atom_most {ws r : List Str} {p n : Nat} (hs : ∀ w ∈ ws, w.length ≤ sizeLine) (hw : ws.length < 2 ^ 30) (hd : ws.drop p = ("most" : Str) :: r) (h : match pf (n + 1) (ws.drop p) with
    | .error x => PX (bx 1 x) none
    | .ok (f, _) => P (.val (.tup [f.d, .int ((p + f.w.length : Nat) : Int)])) none) : sp_atom_in none [.lst (sD ws), .int (p : Int)] P PX := by
  unfold sp_atom_in
  refine ⟨⟨rfl, rfl⟩, ?_⟩
  obtain ⟨d1, d2, d3⟩ := drop1 hd
  rw [hd, pf_most] at h
  refine ⟨⟨_, rfl⟩, _, at_nat (sd_at hd), _, _, rfl, rfl, nb rfl, ?_⟩
  refine norm [vd (.lst (sD ws)), vi (p : Int), vi 2, v0, v0] rfl ?_
  refine ⟨sl (n := 0) (by decide), nb rfl, ?_⟩
  refine norm [vd (.lst (sD ws)), vi (p : Int), vi 2, vl [], v0] rfl ?_
  refine ⟨_, _, rfl, rfl, by omega, ?_⟩
  rw [rng2, show (p : Int) + 1 = ((p + 1 : Nat) : Int) by omega, show (p : Int) + 2 = ((p + 2 : Nat) : Int) by omega]
  refine num_turn hs (by omega) (by simp) rfl ?_
  rw [d1]
  cases h1 : num1 r with
  | error x => rw [h1] at h; exact h
  | ok z =>
    obtain ⟨a, r1⟩ := z
    rw [h1] at h
    obtain ⟨e1, e2⟩ := num1_drop (ws := ws) (q := p + 1) (by rw [d1]; exact h1)
    refine num_turn hs (by omega) (by simp) rfl ?_
    rw [e1]
    dsimp only at h
    cases h2 : num1 r1 with
    | error x => rw [h2] at h; exact h
    | ok z =>
      obtain ⟨b, r2⟩ := z
      rw [h2] at h
      refine ⟨⟨_, rfl⟩, _, at_nat (sd_at hd), sl (n := 1) (by decide), sl (n := 3) (by decide), sl (n := 2) (by decide), trivial, ?_⟩
      have e : (p : Int) + 1 + 2 = ((p + 3 : Nat) : Int) := by omega
      rw [e]
      exact h
theorem w_atom_rest {ws r : List Str} {p n : Nat} (hs : ∀ w ∈ ws, w.length ≤ sizeLine) (hw : ws.length < 2 ^ 30) (hd : ws.drop p = ("rest" : Str) :: r) (h : match pf (n + 1) (ws.drop p) with
    | .error x => PX (bx 1 x) none
    | .ok (f, _) => P (.val (.tup [f.d, .int ((p + f.w.length : Nat) : Int)])) none) : sp_atom_in none [.lst (sD ws), .int (p : Int)] P PX := by
  unfold sp_atom_in
  refine ⟨⟨rfl, rfl⟩, ?_⟩
  obtain ⟨d1, d2, d3⟩ := drop1 hd
  rw [hd, pf_rest] at h
  refine ⟨⟨_, rfl⟩, _, at_nat (sd_at hd), _, _, rfl, rfl, nb rfl, ?_⟩
  refine norm [vd (.lst (sD ws)), vi (p : Int), vi 3, v0, v0] rfl ?_
  refine ⟨sl (n := 0) (by decide), nb rfl, ?_⟩
  refine norm [vd (.lst (sD ws)), vi (p : Int), vi 3, vl [], v0] rfl ?_
  refine ⟨_, _, rfl, rfl, by omega, ?_⟩
  rw [rng3, show (p : Int) + 1 = ((p + 1 : Nat) : Int) by omega, show (p : Int) + 2 = ((p + 2 : Nat) : Int) by omega, show (p : Int) + 3 = ((p + 3 : Nat) : Int) by omega]
  refine num_turn hs (by omega) (by simp) rfl ?_
  rw [d1]
  cases h1 : num1 r with
  | error x => rw [h1] at h; exact h
  | ok z =>
    obtain ⟨a, r1⟩ := z
    rw [h1] at h
    obtain ⟨e1, e2⟩ := num1_drop (ws := ws) (q := p + 1) (by rw [d1]; exact h1)
    refine num_turn hs (by omega) (by simp) rfl ?_
    rw [e1]
    dsimp only at h
    cases h2 : num1 r1 with
    | error x => rw [h2] at h; exact h
    | ok z =>
      obtain ⟨b, r2⟩ := z
      rw [h2] at h
      obtain ⟨f1, f2⟩ := num1_drop (ws := ws) (q := p + 2) (by rw [e1]; exact h2)
      refine num_turn hs (by omega) (by simp) rfl ?_
      rw [f1]
      dsimp only at h
      cases h3 : num1 r2 with
      | error x => rw [h3] at h; exact h
      | ok z =>
        obtain ⟨c, r3⟩ := z
        rw [h3] at h
        refine ⟨⟨_, rfl⟩, _, at_nat (sd_at hd), sl (n := 1) (by decide), sl (n := 4) (by decide), sl (n := 2) (by decide), trivial, ?_⟩
        have e : (p : Int) + 1 + 3 = ((p + 4 : Nat) : Int) := by omega
        rw [e]
        exact h
end
end K90
set_option Elab.async false
set_option linter.all false
set_option maxRecDepth 100000
set_option maxHeartbeats 400000
namespace K90
open PySem PySem.Spec PyProof.Rows L2 PL PLX TL
section
variable {P : Sv → Option M → Prop} {PX : Exn → Option M → Prop} {m : M}
theorem num_none {w : Str} (h1 : w ≠ "most") (h2 : w ≠ "rest") : c_NUMBERS.lookup w = none := by
  unfold c_NUMBERS
  rw [List.lookup_cons, beq_false_of_ne h1, List.lookup_cons, beq_false_of_ne h2]
  rfl
theorem parts_none {w : Str} (h1 : w ≠ "not") (h2 : w ≠ "and") (h3 : w ≠ "or") : c_PARTS.lookup w = none := by
  unfold c_PARTS
  rw [List.lookup_cons, beq_false_of_ne h1, List.lookup_cons, beq_false_of_ne h2, List.lookup_cons, beq_false_of_ne h3]
  rfl
theorem pf_not (n : Nat) (r : List Str) : pf (n + 1) (("not" : Str) :: r) = (match pf n r with
      | .error e => .error e
      | .ok (f, r) => .ok (.nt f, r)) := by
  rw [pf, if_neg (by decide), if_neg (by decide), if_pos rfl] <;> rfl
theorem pf_two (n : Nat) (k : Bool) (r : List Str) : pf (n + 1) (tw k :: r) = (match pf n r with
      | .error e => .error e
      | .ok (f, r) => (match pf n r with
        | .error e => .error e
        | .ok (g, r) => .ok (.two k f g, r))) := by
  cases k
  · show pf (n + 1) (("or" : Str) :: r) = _
    rw [pf, if_neg (by decide), if_neg (by decide), if_neg (by decide), if_neg (by decide), if_pos rfl] <;> rfl
  · show pf (n + 1) (("and" : Str) :: r) = _
    rw [pf, if_neg (by decide), if_neg (by decide), if_neg (by decide), if_pos rfl] <;> rfl
theorem pf_word (n : Nat) {w : Str} (r : List Str) (h1 : w ≠ "most") (h2 : w ≠ "rest") (h3 : w ≠ "not") (h4 : w ≠ "and") (h5 : w ≠ "or") : pf (n + 1) (w :: r) = .error "word" := by
  rw [pf, if_neg h1, if_neg h2, if_neg h3, if_neg h4, if_neg h5]
abbrev fOut (P : Sv → Option M → Prop) (PX : Exn → Option M → Prop) (q : Nat) : Except Str (F × List Str) → Prop
  | .error x => PX (bx 1 x) none
  | .ok (f, _) => P (.val (.tup [f.d, .int ((q + f.w.length : Nat) : Int)])) none
abbrev FI (ws : List Str) (n k : Nat) : Prop := ∀ (q : Nat) (qi dp : Int) (P : Sv → Option M → Prop) (PX : Exn → Option M → Prop), qi = (q : Nat) → dp = 9 - (n : Int) → q ≤ ws.length → fOut P PX q (pf n (ws.drop q)) → semI 5 3 false (b_formula_in k) none [.lst (sD ws), .int qi, .int dp] P PX
/-- one turn over the parts -/
theorem fi_turn {ws : List Str} {n k q : Nat} {t qi dp : Int} {xc : XC} {w : Str} {a1 a6 a7 : Option Sv} {acc : List D} {N : PEnv → Prop} {rt bk ct} (ih : FI ws n k) (hq : qi = (q : Nat)) (hdp : dp + 1 = 9 - (n : Int)) (hl : q ≤ ws.length) (hacc : acc.length < 1000) (h6 : isBor (some a6) = false) (h7 : isBor (some a7) = false) (h : match pf n (ws.drop q) with
    | .error x => xc (bx 1 x) [vd (.lst (sD ws)), a1, vi dp, vd (.str w), vl acc, vi qi, vi t, a7]
    | .ok (f, _) => ∀ qi' : Int, qi' = ((q + f.w.length : Nat) : Int) → N [vd (.lst (sD ws)), a1, vi dp, vd (.str w), vl (acc ++ [f.d]), vi qi', vi t, vd f.d]) :
    gP 6 (.val (.int t)) [vd (.lst (sD ws)), a1, vi dp, vd (.str w), vl acc, vi qi, a6, a7] fun e1 => (sSeq (sAsg (pCall (semI 5 3 false (b_formula_in k)) xc (pCons (pVar 0) (pCons (pVar 5) (pCons (pOp (opB .Add) (pVar 2) (pF (pC (.int 1)))) pNil)))) (gTL 2 (gsCons (gP 7) (gsCons (gP 5) gsNil))))
    (sDrop (pAppend 4 (pVar 7)))) { nx := N, rt := rt, bk := bk, ct := ct } e1 := by
  refine ⟨nb h6, ?_⟩
  refine norm [vd (.lst (sD ws)), a1, vi dp, vd (.str w), vl acc, vi qi, vi t, a7] rfl ?_
  refine ih q qi (dp + 1) _ _ hq hdp hl ?_
  cases hn : pf n (ws.drop q) with
  | error x => rw [hn] at h; exact h
  | ok z =>
    obtain ⟨f, r⟩ := z
    rw [hn] at h
    refine ⟨trivial, _, _, rfl, rfl, rfl, nb h7, nb rfl, rfl, ?_⟩
    refine norm [vd (.lst (sD ws)), a1, vi dp, vd (.str w), vl acc, vi ((q + f.w.length : Nat) : Int), vi t, vd f.d] rfl ?_
    exact ⟨⟨_, rfl, rfl⟩, _, _, rfl, rfl, Nat.lt_of_lt_of_le hacc (sl (n := 1000) (by decide)), h _ rfl⟩
theorem pf_drop {ws r : List Str} {n q : Nat} {f : F} (h : pf n (ws.drop q) = .ok (f, r)) (hq : q ≤ ws.length) : ws.drop (q + f.w.length) = r ∧ q + f.w.length ≤ ws.length := by
  have e := (pf_ok h).1
  refine ⟨?_, ?_⟩
  · rw [← List.drop_drop, e]
    simp
  · have := congrArg List.length e
    rw [List.length_drop, List.length_append] at this
    omega
theorem w_fi {ws : List Str} (hs : ∀ w ∈ ws, w.length ≤ sizeLine) (hw : ws.length < 2 ^ 30) : ∀ (n k : Nat), n ≤ 8 → n < k → FI ws n k
  | n, 0, _, hk => absurd hk (Nat.not_lt_zero n)
  | n, k + 1, h8, hk => fun q qi dp P PX hq hdp hl h => by
    subst hq
    unfold semI
    refine ⟨⟨rfl, rfl⟩, ?_⟩
    refine w_word_at hl ?_
    cases hd : ws.drop q with
    | nil =>
      rw [hd] at h
      have : pf n [] = .error ("length" : Str) := by cases n <;> rfl
      rw [this] at h
      exact h
    | cons w r =>
      obtain ⟨d1, d2, d3⟩ := drop1 hd
      refine ⟨trivial, nb rfl, ?_⟩
      refine norm [vd (.lst (sD ws)), vi (q : Int), vi dp, vd (.str w), v0, v0, v0, v0] rfl ?_
      cases n with
      | zero =>
        refine ifT (decide_eq_true (by omega)) ?_
        rw [hd] at h
        exact ⟨rfl, h⟩
      | succ n =>
        refine ifF (decide_eq_false (by omega)) ?_
        refine ⟨w, rfl, ?_⟩
        by_cases w1 : w = "most"
        · subst w1
          refine ifT (by decide +kernel) ?_
          refine w_atom_most (n := n) hs hw hd ?_
          cases hn : pf (n + 1) (ws.drop q) with
          | error x => rw [hn] at h; exact h
          | ok z => rw [hn] at h; exact ⟨trivial, trivial, h⟩
        by_cases w2 : w = "rest"
        · subst w2
          refine ifT (by decide +kernel) ?_
          refine w_atom_rest (n := n) hs hw hd ?_
          cases hn : pf (n + 1) (ws.drop q) with
          | error x => rw [hn] at h; exact h
          | ok z => rw [hn] at h; exact ⟨trivial, trivial, h⟩
        refine ifF (by rw [num_none w1 w2]; rfl) ?_
        refine ⟨w, rfl, ?_⟩
        have ih := w_fi hs hw n k (by omega) (by omega)
        rw [hd] at h
        have q1 : (q : Int) + 1 = ((q + 1 : Nat) : Int) := by omega
        by_cases w3 : w = "not"
        · subst w3
          rw [pf_not, ← d1] at h
          refine ifF (by decide +kernel) ?_
          refine ⟨sl (n := 0) (by decide), nb rfl, nb rfl, ?_⟩
          refine norm [vd (.lst (sD ws)), vi (q : Int), vi dp, vd (.str "not"), vl [], vi ((q : Int) + 1), v0, v0] rfl ?_
          refine ⟨_, _, rfl, rfl, _, rfl, ⟨by decide, by decide⟩, ?_⟩
          refine fi_turn ih q1 (by omega) d2 (by decide) rfl rfl ?_
          cases hn : pf n (ws.drop (q + 1)) with
          | error x => rw [hn] at h; exact h
          | ok z =>
            obtain ⟨f, r1⟩ := z
            rw [hn] at h
            intro qi' hq'
            subst hq'
            refine ⟨sl (n := 1) (by decide), sl (n := 2) (by decide), sl (n := 2) (by decide), trivial, ?_⟩
            have e : q + 1 + f.w.length = q + (F.nt f).w.length := by
              show _ = q + (f.w.length + 1)
              omega
            rw [e]
            exact h
        have two : ∀ b, w = tw b → (sSeq (sAsg (pLst pNil) (gP 4))
            (sSeq (sAsg (pOp (opB .Add) (pVar 1) (pF (pC (.int 1)))) (gP 5))
            (sSeq (pFor (iRange1 (pIxK c_PARTS (pPk 3))) (gP 6)
              (sSeq (sAsg (pCall (semI 5 3 false (b_formula_in k)) (fun x e => finR false e (PX x)) (pCons (pVar 0) (pCons (pVar 5) (pCons (pOp (opB .Add) (pVar 2) (pF (pC (.int 1)))) pNil)))) (gTL 2 (gsCons (gP 7) (gsCons (gP 5) gsNil))))
              (sDrop (pAppend 4 (pVar 7)))))
            (sRet (pTup (pCons (pOp (opB .Add) (pTup (pCons (pVar 3) pNil)) (pF (pBlt .tuple_ (pLast (pPk 4))))) (pCons (pVar 5) pNil)))))))
            { nx := fun e => finR false e (P (.val .non)), rt := fun sv e => isOut sv ∧ finR false e (P sv), bk := fun _ => False, ct := fun _ => False } [vd (.lst (sD ws)), vi (q : Int), vi dp, vd (.str w), v0, v0, v0, v0] := fun b hb => by
          subst hb
          rw [pf_two, ← d1] at h
          refine ⟨sl (n := 0) (by decide), nb rfl, nb rfl, ?_⟩
          refine norm [vd (.lst (sD ws)), vi (q : Int), vi dp, vd (.str (tw b)), vl [], vi ((q : Int) + 1), v0, v0] rfl ?_
          refine ⟨_, .int 2, rfl, by cases b <;> rfl, _, rfl, ⟨by decide, by decide⟩, ?_⟩
          refine fi_turn ih q1 (by omega) d2 (by decide) rfl rfl ?_
          cases hn : pf n (ws.drop (q + 1)) with
          | error x => rw [hn] at h; exact h
          | ok z =>
            obtain ⟨f, r1⟩ := z
            rw [hn] at h
            intro qi' hq'
            obtain ⟨e1, e2⟩ := pf_drop hn d2
            refine fi_turn ih hq' (by omega) e2 (by simp) rfl rfl ?_
            rw [e1]
            dsimp only at h
            cases hn2 : pf n r1 with
            | error x => rw [hn2] at h; exact h
            | ok z =>
              obtain ⟨g, r2⟩ := z
              rw [hn2] at h
              intro qi2 hq2
              subst hq2
              refine ⟨sl (n := 1) (by decide), sl (n := 3) (by decide), sl (n := 2) (by decide), trivial, ?_⟩
              have e : q + 1 + f.w.length + g.w.length = q + (F.two b f g).w.length := by
                show _ = q + ((f.w ++ g.w).length + 1)
                rw [List.length_append]
                omega
              rw [e]
              exact h
        by_cases w4 : w = "and"
        · subst w4
          refine ifF (by decide +kernel) ?_
          exact two true rfl
        by_cases w5 : w = "or"
        · subst w5
          refine ifF (by decide +kernel) ?_
          exact two false rfl
        rw [pf_word n r w1 w2 w3 w4 w5] at h
        refine ifT (by rw [parts_none w3 w4 w5]; rfl) ?_
        exact ⟨rfl, h⟩
end
end K90
set_option Elab.async false
set_option linter.all false
set_option maxRecDepth 100000
set_option maxHeartbeats 400000
namespace K90
open PySem PySem.Spec PyProof.Rows L2 PL PLX TL
section
variable {P : Sv → Option M → Prop} {PX : Exn → Option M → Prop} {m : M}
abbrev jn (ws : List Str) : Str := Txt.join " " ws
/-- words that stand between blanks -/
def Wd (ws : List Str) : Prop := ws ≠ [] ∧ ∀ w ∈ ws, 32 ∉ tl w
theorem split_jn {ws : List Str} (h : Wd ws) : Txt.split (jn ws) " " = ws := split_join (y := " ") (s := 32) (S := []) (by decide +kernel) (by decide +kernel) h.1 h.2
theorem len_jn {ws : List Str} (h : Wd ws) : (jn ws).length + 1 = (ws.map (·.length)).sum + ws.length := by
  obtain ⟨h1, h2⟩ := h
  rw [show jn ws = Str.join " " ws from join_eq _ _, len_tl, tl_join]
  have e : tl (" " : Str) = [32] := by decide +kernel
  rw [e]
  clear h2
  induction ws with
  | nil => exact absurd rfl h1
  | cons w ws ih =>
    cases ws with
    | nil => simp [joinL, len_tl]
    | cons v ws =>
      have := ih (by simp)
      simp only [List.map_cons, joinL, List.length_append, List.length_cons, List.length_nil, List.sum_cons] at this ⊢
      rw [len_tl w]
      omega
theorem mem_len {ws : List Str} (h : Wd ws) {w : Str} (hw : w ∈ ws) : w.length ≤ (jn ws).length := by
  have e := len_jn h
  have h1 : w.length ≤ (ws.map (·.length)).sum := by
    clear e h
    induction ws with
    | nil => cases hw
    | cons v ws ih =>
      rcases List.mem_cons.mp hw with rfl | hw
      · simp
      · have := ih hw
        simp only [List.map_cons, List.sum_cons]
        omega
  have h2 : 0 < ws.length := List.length_pos_iff.mpr h.1
  omega
theorem kit_none_str : kitB "NoneType" "str" = some false := by decide +kernel
theorem kit_int_str : kitB "int" "str" = some false := by decide +kernel
theorem kit_tuple_str : kitB "tuple" "str" = some false := by decide +kernel
theorem kit_list_str : kitB "list" "str" = some false := by decide +kernel
def noStr : D → Bool
  | .non => true
  | .int _ => true
  | .tup _ => true
  | .lst _ => true
  | _ => false
theorem w_read_bad {d : D} (hd : noStr d = true) (h : PX (bx 0 "text") none) : sp_read_formula none [d] P PX := by
  unfold sp_read_formula
  refine ⟨⟨rfl, rfl⟩, ?_⟩
  cases d with
  | non => exact ⟨_, _, rfl, kit_none_str, rfl, h⟩
  | int i => exact ⟨_, _, rfl, kit_int_str, rfl, h⟩
  | tup i => exact ⟨_, _, rfl, kit_tuple_str, rfl, h⟩
  | lst i => exact ⟨_, _, rfl, kit_list_str, rfl, h⟩
  | _ => cases hd
theorem w_read_long {z : Str} (h1 : 20000 < z.length) (h2 : z.length ≤ sizeLine) (h : PX (bx 0 "text") none) : sp_read_formula none [.str z] P PX := by
  unfold sp_read_formula
  refine ⟨⟨rfl, rfl⟩, ?_⟩
  refine ⟨_, _, rfl, kit_str_str, h2, ?_⟩
  refine ifT (decide_eq_true (by omega)) ?_
  exact ⟨rfl, h⟩
abbrev rOut (P : Sv → Option M → Prop) (PX : Exn → Option M → Prop) : Except Str (F × List Str) → Prop
  | .error x => PX (bx 1 x) none
  | .ok (f, []) => P (.val f.d) none
  | .ok (_, _ :: _) => PX (bx 1 "length") none
theorem w_read {ws : List Str} (hw : Wd ws) (hl : (jn ws).length ≤ 20000) (h : rOut P PX (pf 8 ws)) : sp_read_formula none [.str (jn ws)] P PX := by
  have sz : (20000 : Nat) + 2 ≤ sizeLine := by decide
  unfold sp_read_formula
  refine ⟨⟨rfl, rfl⟩, ?_⟩
  refine ⟨_, _, rfl, kit_str_str, Nat.le_trans hl (Nat.le_trans (by decide) sz), ?_⟩
  refine ifF (decide_eq_false (by omega)) ?_
  refine ⟨_, rfl, _, rfl, by decide +kernel, Nat.le_trans (Nat.add_le_add_right hl 2) sz, nb rfl, ?_⟩
  rw [split_jn hw]
  refine norm [vd (.str (jn ws)), vl (sD ws), v0, v0] rfl ?_
  have lw : ws.length < 2 ^ 30 := by
    have := len_jn hw
    omega
  have hs : ∀ w ∈ ws, w.length ≤ sizeLine := fun w m => Nat.le_trans (mem_len hw m) (Nat.le_trans hl (Nat.le_trans (by decide) sz))
  have fi : sp_formula_in = semI 5 3 false (b_formula_in 11) := by unfold sp_formula_in; rfl
  show sp_formula_in none [.lst (sD ws), .int 0, .int 1] _ _
  rw [fi]
  refine w_fi hs lw 8 11 (by decide) (by decide) 0 0 1 _ _ rfl (by decide) (Nat.zero_le _) ?_
  rw [List.drop_zero]
  cases hp : pf 8 ws with
  | error x => rw [hp] at h; exact h
  | ok z =>
    obtain ⟨f, r⟩ := z
    rw [hp] at h
    have e := (pf_ok hp).1
    refine ⟨trivial, _, _, rfl, rfl, rfl, nb rfl, nb rfl, rfl, ?_⟩
    rw [Nat.zero_add]
    refine norm [vd (.str (jn ws)), vd (.lst (sD ws)), vd f.d, vi (f.w.length : Nat)] rfl ?_
    have el : ws.length = f.w.length + r.length := by rw [e, List.length_append]
    cases r with
    | nil =>
      refine ifF (decide_eq_false ?_) ?_
      · rw [List.length_map, el, List.length_nil]
        omega
      · exact ⟨trivial, h⟩
    | cons v r =>
      refine ifT (decide_eq_true ?_) ?_
      · rw [List.length_map, el, List.length_cons]
        omega
      · exact ⟨rfl, h⟩
def lrD : Except Str (F × List Str) → D
  | .error x => .tup [.str "bad", .int 1, .str x]
  | .ok (f, []) => .tup [.str "read", f.d, .str ""]
  | .ok (_, _ :: _) => .tup [.str "bad", .int 1, .str "length"]
abbrev badT : D := .tup [.str "bad", .int 0, .str "text"]
theorem bt : exmT.lookup (("BadText" : Str), ("ShelfmillError" : Str)) = some true := by decide +kernel
theorem bt2 : exmT.lookup (("BadText" : Str), ("BadText" : Str)) = some true := by decide +kernel
theorem bt3 : exmT.lookup (("BadText" : Str), ("BadArgument" : Str)) = some false := by decide +kernel
theorem lr_x {d : D} {l : Int} {r : Str} (w : ∀ P PX, PX (bx l r) none → sp_read_formula none [d] P PX) (h : P (.val (.tup [.str "bad", .int l, .str r])) none) : sp__law_read none [d] P PX := by
  unfold sp__law_read
  refine ⟨⟨rfl, rfl⟩, ?_⟩
  refine w _ _ ?_
  refine ⟨true, bt, fun _ => ?_, fun z => by cases z⟩
  refine ⟨_, true, rfl, bt2, ?_⟩
  refine ⟨_, false, rfl, bt3, ?_⟩
  exact ⟨_, rfl, _, rfl, _, rfl, _, rfl, sl (n := 3) (by decide), trivial, trivial, h⟩
theorem w_lread_bad {d : D} (hd : noStr d = true) (h : P (.val badT) none) : sp__law_read none [d] P PX := lr_x (fun P PX h => w_read_bad hd h) h
theorem w_lread_long {z : Str} (h1 : 20000 < z.length) (h2 : z.length ≤ sizeLine) (h : P (.val badT) none) : sp__law_read none [.str z] P PX := lr_x (fun P PX h => w_read_long h1 h2 h) h
theorem w_lread {ws : List Str} (hw : Wd ws) (hl : (jn ws).length ≤ 20000) (h : P (.val (lrD (pf 8 ws))) none) : sp__law_read none [.str (jn ws)] P PX := by
  cases hp : pf 8 ws with
  | error x =>
    rw [hp] at h
    exact lr_x (fun P PX h => w_read hw hl (by rw [hp]; exact h)) h
  | ok z =>
    obtain ⟨f, r⟩ := z
    rw [hp] at h
    cases r with
    | cons v r => exact lr_x (fun P PX h => w_read hw hl (by rw [hp]; exact h)) h
    | nil =>
      unfold sp__law_read
      refine ⟨⟨rfl, rfl⟩, ?_⟩
      refine w_read hw hl ?_
      rw [hp]
      refine ⟨trivial, nb rfl, ?_⟩
      exact ⟨sl (n := 3) (by decide), trivial, h⟩
end
end K90
set_option Elab.async false
set_option linter.all false
set_option maxRecDepth 100000
set_option maxHeartbeats 400000
namespace K90
open PySem PySem.Spec PyProof.Rows L2 PL PLX TL
section
variable {P : Sv → Option M → Prop} {PX : Exn → Option M → Prop} {m : M}
theorem inW {w : Str} : ∀ {l : List Str}, inV (D.toV (.str w)) ((l.map D.str).map D.toV) = decide (w ∈ l)
  | [] => by rw [decide_eq_false (by simp)]; rfl
  | x :: l => by
    show (x == w || inV (D.toV (.str w)) ((l.map D.str).map D.toV)) = _
    rw [inW]
    by_cases h : x = w
    · subst h; simp
    · rw [beq_false_of_ne h, Bool.false_or]
      have : (w ∈ x :: l) ↔ w ∈ l := by simp [Ne.symm h]
      simp [this]
theorem ifIn {w : Str} {l : List Str} {A B : Prop} (a : w ∈ l → A) (b : w ∉ l → B) : if inV (D.toV (.str w)) ((l.map D.str).map D.toV) = true then A else B := by
  rw [inW]
  exact ifd a b
theorem last_at {A : List D} {x : D} : (A ++ [x])[(A ++ [x]).length - 1]? = some x := by simp
abbrev nD (s : List Nat) : List D := s.map fun n => dI n
theorem w_due {ws : List Str} (hs : ∀ w ∈ ws, w.length ≤ sizeLine) (hw : ws.length ≤ 30000) (h : P (.val (.str (due [1] ws))) none) : sp__law_due none [.lst (sD ws)] P PX := by
  unfold sp__law_due
  refine ⟨⟨rfl, rfl⟩, ?_⟩
  refine ⟨sl (n := 1) (by decide), nb rfl, nb rfl, ?_⟩
  refine norm [vd (.lst (sD ws)), vl [.int 1], vi 0, v0, v0] rfl ?_
  refine ⟨fun m e => ∃ (s : List Nat) (p : Nat) (pi : Int) (o3 o4 : Option Sv), isBor (some o3) = false ∧ isBor (some o4) = false ∧ pi = (p : Nat) ∧ p ≤ ws.length ∧ m + p = ws.length ∧ s.length ≤ 1 + 3 * p ∧ due s (ws.drop p) = due [1] ws ∧ e = [vd (.lst (sD ws)), vl (nD s.reverse), vi pi, o3, o4],
    ⟨ws.length, [1], 0, 0, v0, v0, rfl, rfl, rfl, Nat.zero_le _, rfl, by decide, rfl, rfl⟩, ?_⟩
  rintro m e ⟨s, p, pi, o3, o4, h3, h4, rfl, hp, hm, hsz, hd, rfl⟩
  cases s with
  | nil =>
    cases hr : ws.drop p with
    | nil =>
      have : p = ws.length := by
        have := congrArg List.length hr
        rw [List.length_drop, List.length_nil] at this
        omega
      rw [hr] at hd
      rw [← hd] at h
      refine ifF (decide_eq_false ?_) ?_
      · rw [List.length_map]; omega
      · exact ⟨trivial, h⟩
    | cons w r =>
      have := (drop1 hr).2.1
      rw [hr] at hd
      rw [← hd] at h
      refine ifT (decide_eq_true ?_) ?_
      · rw [List.length_map]; omega
      · exact ⟨trivial, h⟩
  | cons l s =>
    have e1 : nD (l :: s).reverse = nD s.reverse ++ [dI l] := by simp [nD]
    rw [e1]
    refine ifT (decide_eq_true (by rw [List.length_append]; simp)) ?_
    refine ⟨fun e => ∃ (s' : List Nat) (pi : Int) (o3 o4 : Option Sv), isBor (some o3) = false ∧ isBor (some o4) = false ∧ pi = ((p + 1 : Nat) : Int) ∧ p < ws.length ∧ s'.length ≤ 1 + 3 * (p + 1) ∧ due s' (ws.drop (p + 1)) = due [1] ws ∧ e = [vd (.lst (sD ws)), vl (nD s'.reverse), vi pi, o3, o4],
      fun e ⟨s', pi, o3, o4, k3, k4, k5, k6, k7, k8, k9⟩ => ⟨m - 1, by omega, s', p + 1, pi, o3, o4, k3, k4, k5, by omega, by omega, k7, k8, k9⟩, ?_⟩
    refine ⟨_, _, _, rfl, rfl, last_at, nb h3, ?_⟩
    refine norm [vd (.lst (sD ws)), vl (nD s.reverse), vi (p : Int), vd (dI l), o4] (by simp [nD, List.dropLast_concat, reHold]) ?_
    have sz : (100000 : Nat) ≤ sizeLine := by decide
    refine ⟨_, rfl, ?_⟩
    refine ifd (fun h1 => ?_) (fun h1 => ?_)
    · have h1 : (p : Int) = ((sD ws).length : Nat) := h1
      rw [List.length_map] at h1
      rw [List.drop_eq_nil_of_le (by omega)] at hd
      have : due (l :: s) [] = "length" := by rw [due]
      rw [this] at hd
      rw [← hd] at h
      exact ⟨trivial, h⟩
    have h1 : ¬ (p : Int) = ((sD ws).length : Nat) := h1
    rw [List.length_map] at h1
    obtain ⟨w, r, hr⟩ : ∃ w r, ws.drop p = w :: r := ⟨_, _, List.drop_eq_getElem_cons (by omega : p < ws.length)⟩
    obtain ⟨d1, d2, d3⟩ := drop1 hr
    have hwm : w ∈ ws := List.mem_of_getElem? d3
    rw [hr] at hd
    refine ⟨⟨_, rfl⟩, _, at_nat (sd_at hr), nb h4, nb rfl, ?_⟩
    refine norm [vd (.lst (sD ws)), vl (nD s.reverse), vi ((p : Int) + 1), vd (dI l), vd (.str w)] rfl ?_
    have p1 : (p : Int) + 1 = ((p + 1 : Nat) : Int) := by omega
    have nxt : ∀ s' : List Nat, s'.length ≤ 1 + 3 * (p + 1) → due s' r = due [1] ws → ∃ (s'' : List Nat) (pi : Int) (o3 o4 : Option Sv), isBor (some o3) = false ∧ isBor (some o4) = false ∧ pi = ((p + 1 : Nat) : Int) ∧ p < ws.length ∧ s''.length ≤ 1 + 3 * (p + 1) ∧ due s'' (ws.drop (p + 1)) = due [1] ws ∧ [vd (.lst (sD ws)), vl (nD s'.reverse), vi ((p : Int) + 1), vd (dI l), vd (.str w)] = [vd (.lst (sD ws)), vl (nD s''.reverse), vi pi, o3, o4] :=
      fun s' k1 k2 => ⟨s', _, _, _, rfl, rfl, p1, d2, k1, by rw [d1]; exact k2, rfl⟩
    have hsl : s.length ≤ 3 * p := by simp at hsz; omega
    have sln : (nD s.reverse).length = s.length := by simp [nD]
    refine ⟨_, rfl, ?_⟩
    refine ifd (fun h2 => ?_) (fun h2 => ?_)
    · have l0 : l = 0 := by omega
      subst l0
      rw [due_z] at hd
      refine w_law_is_figures (hs w hwm) ⟨trivial, ?_⟩
      refine if2 (fun f => ?_) (fun f => ?_)
      · have f : isFig w = false := by simpa using f
        rw [if_neg (by rw [f]; decide)] at hd
        rw [← hd] at h
        exact ⟨trivial, h⟩
      · have f : isFig w = true := by simpa using f
        rw [if_pos f] at hd
        exact nxt s (by omega) hd
    obtain ⟨k, rfl⟩ : ∃ k, l = k + 1 := ⟨l - 1, by omega⟩
    rw [due_s] at hd
    refine ifd (fun h3 => ?_) (fun h3 => ?_)
    · rw [if_pos (by omega)] at hd
      rw [← hd] at h
      exact ⟨trivial, h⟩
    rw [if_neg (by omega)] at hd
    refine ⟨_, rfl, ?_⟩
    have k2 : (((k + 1 : Nat) : Int) + 1) = ((k + 2 : Nat) : Int) := by omega
    refine ifd (fun h4 => ?_) (fun h4 => ?_)
    · rw [if_pos h4] at hd
      refine ⟨sl (n := 1) (by decide), by rw [sln]; simp; omega, nb rfl, ?_⟩
      rw [k2]
      have := nxt ((k + 2) :: s) (by simp; omega) hd
      rw [show nD ((k + 2) :: s).reverse = nD s.reverse ++ [dI (k + 2)] by simp [nD]] at this
      exact this
    rw [if_neg h4] at hd
    refine ⟨sl (n := 2) (by decide), rfl, rfl, ?_⟩
    refine ifIn (l := ["and", "or"]) (fun h5 => ?_) (fun h5 => ?_)
    · rw [if_pos (by simpa using h5)] at hd
      refine ⟨sl (n := 2) (by decide), by rw [sln]; simp; omega, nb rfl, ?_⟩
      rw [k2]
      have := nxt ((k + 2) :: (k + 2) :: s) (by simp; omega) hd
      rw [show nD ((k + 2) :: (k + 2) :: s).reverse = nD s.reverse ++ [dI (k + 2), dI (k + 2)] by simp [nD]] at this
      exact this
    rw [if_neg (by simpa using h5)] at hd
    refine ⟨sl (n := 2) (by decide), rfl, rfl, ?_⟩
    refine ifIn (l := ["most", "rest"]) (fun h6 => ?_) (fun h6 => ?_)
    · refine ⟨sl (n := 1) (by decide), _, rfl, ?_⟩
      have h6 : w = "most" ∨ w = "rest" := by simpa using h6
      rcases h6 with rfl | rfl
      · rw [if_pos rfl] at hd
        refine ⟨by decide +kernel, by rw [sln]; exact Nat.le_trans (show s.length + 2 ≤ 100000 by omega) sz, nb rfl, ?_⟩
        have := nxt (0 :: 0 :: s) (by simp; omega) hd
        rw [show nD (0 :: 0 :: s).reverse = nD s.reverse ++ [dI 0, dI 0] by simp [nD]] at this
        exact this
      · rw [if_neg (by decide), if_pos rfl] at hd
        refine ⟨by decide +kernel, by rw [sln]; exact Nat.le_trans (show s.length + 3 ≤ 100000 by omega) sz, nb rfl, ?_⟩
        have := nxt (0 :: 0 :: 0 :: s) (by simp; omega) hd
        rw [show nD (0 :: 0 :: 0 :: s).reverse = nD s.reverse ++ [dI 0, dI 0, dI 0] by simp [nD]] at this
        exact this
    · have h6 : ¬ (w = "most" ∨ w = "rest") := by simpa using h6
      rw [if_neg fun e => h6 (.inl e), if_neg fun e => h6 (.inr e)] at hd
      rw [← hd] at h
      exact ⟨trivial, h⟩
end
end K90
set_option Elab.async false
set_option linter.all false
set_option maxRecDepth 100000
set_option maxHeartbeats 400000
namespace K90
open PySem PySem.Spec PyProof.Rows L2 PL PLX TL
section
variable {P : Sv → Option M → Prop} {PX : Exn → Option M → Prop} {m : M}
theorem nst_free {n c : Nat} (h : c < 48 ∨ 57 < c) : c ∉ tl (nst n) := by
  rw [tl_num]
  exact numL_free h
theorem nst_ne {n c : Nat} {w : Str} (hc : c ∈ tl w) (h : c < 48 ∨ 57 < c) : nst n ≠ w := fun e => nst_free (n := n) h (by rw [e]; exact hc)
theorem nst_kw {n : Nat} : nst n ∉ (["most", "rest", "not", "and", "or"] : List Str) := by
  intro h
  simp only [List.mem_cons, List.not_mem_nil, or_false] at h
  rcases h with h | h | h | h | h
  · exact nst_ne (c := 109) (by decide +kernel) (by decide) h
  · exact nst_ne (c := 114) (by decide +kernel) (by decide) h
  · exact nst_ne (c := 110) (by decide +kernel) (by decide) h
  · exact nst_ne (c := 97) (by decide +kernel) (by decide) h
  · exact nst_ne (c := 111) (by decide +kernel) (by decide) h
theorem nst_len {n : Nat} (h : n < 10 ^ 60) : (nst n).length ≤ 60 := by
  rw [len_tl, tl_num]
  exact numL_len (by decide) h
theorem nst_int {n : Nat} (h : n < 10 ^ 60) : PySem.intText? (nst n) = some (n : Int) := int_num (Nat.le_trans (numL_len (by decide) h) (by decide))
def hB : pS := (sIf (pB (pOp (cmpB .In) (pVar 2) (pF (pTup (pCons (pC (.str "most")) (pCons (pC (.str "rest")) (pCons (pC (.str "not")) (pCons (pC (.str "and")) (pCons (pC (.str "or")) pNil)))))))))
      (sSeq (sAsg (pTup (pCons (pVar 2) pNil)) (gP 3))
      (sSeq (pFor (iRange1 (pOp (opB .Add) (pOp (opB .Add) (pC (.int 1)) (pF (pBlt .int_ (pLast (pF (pOp (cmpB .NotEq) (pVar 2) (pF (pC (.str "not"))))))))) (pF (pBlt .int_ (pLast (pF (pOp (cmpB .Eq) (pVar 2) (pF (pC (.str "rest")))))))))) (gP 4)
        (sAsg (pOp (opB .Add) (pVar 3) (pF (pTup (pCons (pPop 1) pNil)))) (gP 3)))
      (sDrop (pAppend 1 (pVar 3)))))
      (sDrop (pAppend 1 (pBlt .int_ (pLast (pPk 2))))))
def nbo (o : Option Sv) : Prop := isBor (some o) = false
abbrev hS (ws : List Str) (vs : List D) (o2 o3 o4 : Option Sv) : PEnv := [vd (.lst (sD ws)), vl vs, o2, o3, o4]
theorem big {n : Nat} (h : n ≤ 200000) : n ≤ sizeLine := Nat.le_trans h (by decide)
theorem hand_num {ws : List Str} {vs : List D} {o2 o3 o4 : Option Sv} {n : Nat} {es : List D} {Q : pEnds} (hn : n < 10 ^ 60) (hv : vs.length < 200000) (h2 : nbo o2) (h : forL (gP 2) hB es Q (hS ws (vs ++ [dI n]) (vd (.str (nst n))) o3 o4)) : forL (gP 2) hB (.str (nst n) :: es) Q (hS ws vs o2 o3 o4) := by
  refine ⟨nb h2, ?_⟩
  refine norm (hS ws vs (vd (.str (nst n))) o3 o4) rfl ?_
  refine ⟨sl (n := 5) (by decide), rfl, rfl, ?_⟩
  refine ifIn (l := ["most", "rest", "not", "and", "or"]) (fun z => absurd z nst_kw) (fun _ => ?_)
  exact ⟨⟨_, rfl, rfl⟩, _, nst_int hn, Nat.le_trans (nst_len hn) (by decide), _, _, rfl, rfl, Nat.lt_of_lt_of_le hv (big (Nat.le_refl _)), h⟩
theorem pop_at {A : List D} {x : D} : (A ++ [x])[(A ++ [x]).length - 1]? = some x := by simp
theorem hand_kw {ws : List Str} {vs as : List D} {o2 o3 o4 : Option Sv} {w : Str} {k : Nat} {es : List D} {Q : pEnds} (hw : w ∈ (["most", "rest", "not", "and", "or"] : List Str)) (hk : (1 : Int) + (if (!decide (w = "not")) = true then 1 else 0) + (if decide (w = "rest") = true then 1 else 0) = (k : Nat)) (has : as.length = k) (hk5 : k ≤ 5)
    (hv : vs.length < 200000) (h2 : nbo o2) (h3 : nbo o3) (h4 : nbo o4) (h : ∀ o2 o3 o4, nbo o2 → nbo o3 → nbo o4 → forL (gP 2) hB es Q (hS ws (vs ++ [.tup (.str w :: as)]) o2 o3 o4)) : forL (gP 2) hB (.str w :: es) Q (hS ws (vs ++ as.reverse) o2 o3 o4) := by
  refine ⟨nb h2, ?_⟩
  refine norm (hS ws (vs ++ as.reverse) (vd (.str w)) o3 o4) rfl ?_
  refine ⟨sl (n := 5) (by decide), rfl, rfl, ?_⟩
  refine ifIn (l := ["most", "rest", "not", "and", "or"]) (fun _ => ?_) (fun z => absurd hw z)
  refine ⟨sl (n := 1) (by decide), nb h3, ?_⟩
  refine norm (hS ws (vs ++ as.reverse) (vd (.str w)) (vd (.tup [.str w])) o4) rfl ?_
  refine ⟨_, rfl, _, rfl, _, rfl, ?_⟩
  rw [hk]
  refine ⟨by omega, ?_⟩
  have key : ∀ (r : List D) (lo : Int) (bs : List D) (j : Nat) o4 (Q' : pEnds), nbo o4 → r.length ≤ 5 → bs.length + r.length ≤ 5 → (∀ o4, nbo o4 → Q'.nx (hS ws vs (vd (.str w)) (vd (.tup (.str w :: (bs ++ r)))) o4)) →
      forL (gP 4) (sAsg (pOp (opB .Add) (pVar 3) (pF (pTup (pCons (pPop 1) pNil)))) (gP 3)) ((List.range' j r.length).map fun i => .int (lo + (i : Nat))) Q' (hS ws (vs ++ r.reverse) (vd (.str w)) (vd (.tup (.str w :: bs))) o4) := by
    intro r lo
    induction r with
    | nil => intro bs j o4 Q' h4 _ _ h; have := h o4 h4; rw [List.append_nil] at this; rw [List.reverse_nil, List.append_nil]; exact this
    | cons a r ih =>
      intro bs j o4 Q' h4 hl hb h
      rw [List.length_cons, List.range'_succ, List.map_cons]
      refine ⟨nb h4, ?_⟩
      refine norm (hS ws (vs ++ (a :: r).reverse) (vd (.str w)) (vd (.tup (.str w :: bs))) (vi (lo + (j : Nat)))) rfl ?_
      rw [show vs ++ (a :: r).reverse = (vs ++ r.reverse) ++ [a] by simp]
      refine ⟨_, _, _, rfl, rfl, pop_at, sl (n := 1) (by decide), sl (n := (D.str w :: bs).length + [a].length) (by simp at hb ⊢; omega), nb rfl, ?_⟩
      refine norm (hS ws (vs ++ r.reverse) (vd (.str w)) (vd (.tup (.str w :: (bs ++ [a])))) (vi (lo + (j : Nat)))) (by simp [List.dropLast_concat, reHold, hS]) ?_
      refine ih (bs ++ [a]) (j + 1) _ Q' rfl (by simp at hl; omega) (by simp at hb ⊢; omega) fun o4 h4 => ?_
      have := h o4 h4
      rw [List.append_assoc]
      exact this
  have := key as 0 [] 0 o4 { nx := fun e => sDrop (pAppend 1 (pVar 3)) { nx := forL (gP 2) hB es Q, rt := Q.rt, bk := Q.nx, ct := forL (gP 2) hB es Q } e, rt := Q.rt, bk := Q.nx, ct := forL (gP 2) hB es Q } h4 (by omega) (by simp; omega) (fun o4 h4 => ?_)
  · rw [has] at this
    rw [show rangeD 0 ((k : Nat) : Int).toNat = (List.range' 0 k).map fun (i : Nat) => D.int (0 + (i : Nat)) by unfold rangeD; rw [List.range_eq_range', Int.toNat_natCast]]
    exact this
  · exact ⟨⟨_, rfl, rfl⟩, _, _, rfl, rfl, Nat.lt_of_lt_of_le hv (big (Nat.le_refl _)), h _ _ _ rfl rfl h4⟩
theorem hand_F {ws : List Str} : ∀ (f : F) {vs es : List D} {o2 o3 o4 : Option Sv} {Q : pEnds}, f.sm → vs.length + f.w.length < 200000 → nbo o2 → nbo o3 → nbo o4 → (∀ o2 o3 o4, nbo o2 → nbo o3 → nbo o4 → forL (gP 2) hB es Q (hS ws (vs ++ [f.d]) o2 o3 o4)) →
    forL (gP 2) hB (sD f.w.reverse ++ es) Q (hS ws vs o2 o3 o4)
  | .most a b, vs, es, o2, o3, o4, Q, hs, hl, h2, h3, h4, h => by
    have hl : vs.length + 3 < 200000 := hl
    show forL (gP 2) hB (.str (nst b) :: .str (nst a) :: .str "most" :: es) Q _
    refine hand_num hs.2 (by omega) h2 ?_
    refine hand_num hs.1 (by simp; omega) rfl ?_
    rw [List.append_assoc]
    exact hand_kw (as := [dI a, dI b]) (k := 2) (by decide) (by decide +kernel) rfl (by decide) (by omega) rfl h3 h4 h
  | .rest a b c, vs, es, o2, o3, o4, Q, hs, hl, h2, h3, h4, h => by
    have hl : vs.length + 4 < 200000 := hl
    show forL (gP 2) hB (.str (nst c) :: .str (nst b) :: .str (nst a) :: .str "rest" :: es) Q _
    refine hand_num hs.2.2 (by omega) h2 ?_
    refine hand_num hs.2.1 (by simp; omega) rfl ?_
    refine hand_num hs.1 (by simp; omega) rfl ?_
    rw [List.append_assoc, List.append_assoc]
    exact hand_kw (as := [dI a, dI b, dI c]) (k := 3) (by decide) (by decide +kernel) rfl (by decide) (by omega) rfl h3 h4 h
  | .nt f, vs, es, o2, o3, o4, Q, hs, hl, h2, h3, h4, h => by
    have hl : vs.length + (f.w.length + 1) < 200000 := hl
    have e : sD (F.nt f).w.reverse ++ es = sD f.w.reverse ++ (.str "not" :: es) := by
      show (("not" : Str) :: f.w).reverse.map D.str ++ es = _
      rw [List.reverse_cons, List.map_append, List.append_assoc]
      rfl
    rw [e]
    refine hand_F f hs (by omega) h2 h3 h4 fun o2 o3 o4 h2 h3 h4 => ?_
    exact hand_kw (as := [f.d]) (k := 1) (by decide) (by decide +kernel) rfl (by decide) (by omega) h2 h3 h4 h
  | .two k f g, vs, es, o2, o3, o4, Q, hs, hl, h2, h3, h4, h => by
    have hl : vs.length + ((f.w ++ g.w).length + 1) < 200000 := hl
    rw [List.length_append] at hl
    have e : sD (F.two k f g).w.reverse ++ es = sD g.w.reverse ++ (sD f.w.reverse ++ (.str (tw k) :: es)) := by
      show (tw k :: (f.w ++ g.w)).reverse.map D.str ++ es = _
      rw [List.reverse_cons, List.reverse_append, List.map_append, List.map_append, List.append_assoc, List.append_assoc]
      rfl
    rw [e]
    refine hand_F g hs.2 (by omega) h2 h3 h4 fun o2 o3 o4 h2 h3 h4 => ?_
    refine hand_F f hs.1 (by simp; omega) h2 h3 h4 fun o2 o3 o4 h2 h3 h4 => ?_
    rw [List.append_assoc]
    exact hand_kw (as := [f.d, g.d]) (k := 2) (by cases k <;> decide) (by cases k <;> decide +kernel) rfl (by decide) (by omega) h2 h3 h4 h
theorem w_hand {f : F} (hs : f.sm) (hl : f.w.length < 100000) (h : P (.val f.d) none) : sp__law_read_by_hand none [.lst (sD f.w)] P PX := by
  unfold sp__law_read_by_hand
  refine ⟨⟨rfl, rfl⟩, ?_⟩
  refine ⟨sl (n := 0) (by decide), nb rfl, ?_⟩
  refine norm (hS f.w [] v0 v0 v0) rfl ?_
  refine ⟨_, rfl, ?_⟩
  show forL (gP 2) hB (sD f.w).reverse _ _
  have e : (sD f.w).reverse = sD f.w.reverse ++ [] := by simp [sD]
  rw [e]
  refine hand_F f hs (by simp; omega) rfl rfl rfl fun o2 o3 o4 h2 h3 h4 => ?_
  exact ⟨⟨_, rfl⟩, _, rfl, trivial, h⟩
end
end K90
set_option Elab.async false
set_option linter.all false
set_option maxRecDepth 100000
set_option maxHeartbeats 400000
namespace K90
open PySem PySem.Spec PyProof.Rows L2 PL PLX TL
section
variable {P : Sv → Option M → Prop} {PX : Exn → Option M → Prop} {m : M}
theorem log_sm {n : Nat} (h : n < 10 ^ 60) : ((n : Nat) : Int).natAbs.log2 < 1920 := by
  have : Sm 200 (n : Int) := by unfold Sm; omega
  have := this.log (by decide)
  omega
theorem w_row_words {ns : List Nat} (hl : ns.length ≤ 1000) (hs : ∀ n ∈ ns, n < 10 ^ 60) (h : P (.own (.lst (sD (ns.map nst)))) none) : sp_row_words none [.tup (nD ns)] P PX := by
  unfold sp_row_words
  refine ⟨⟨rfl, rfl⟩, ?_⟩
  refine lcL_ix (fun i acc e => acc = sD ((ns.take i).map nst) ∧ ∃ o, e = [vd (.tup (nD ns)), o] ∧ nbo o) ⟨rfl, _, rfl, rfl⟩ (fun i d acc e N hi hI hN => ?_) (fun acc e hI => ?_)
  · obtain ⟨rfl, o, rfl, ho⟩ := hI
    rw [List.getElem?_map] at hi
    cases hc : ns[i]? with
    | none => rw [hc] at hi; cases hi
    | some n =>
      rw [hc] at hi
      cases hi
      have hil := (List.getElem?_eq_some_iff.mp hc).1
      refine ⟨nb rfl, log_sm (hs n (List.mem_of_getElem? hc)), ?_, hN _ _ ⟨?_, _, rfl, rfl⟩⟩
      · rw [List.length_map, List.length_map, List.length_take]
        exact Nat.lt_of_lt_of_le (by omega : min i ns.length < 1000) (sl (n := 1000) (by decide))
      · rw [List.take_add_one, hc, List.map_append]
        show _ = (List.map nst (List.take i ns) ++ [nst n]).map D.str
        rw [List.map_append]
        rfl
  · obtain ⟨rfl, o, rfl, ho⟩ := hI
    rw [List.length_map, List.take_length]
    exact ⟨trivial, h⟩
theorem F.wpos (f : F) : 1 ≤ f.w.length := by
  cases f <;> simp [F.w]
theorem cut2 {a b c : D} : cutD [a, b, c] (some 1) none = [b, c] := rfl
theorem cut3 {a b c d : D} : cutD [a, b, c, d] (some 1) none = [b, c, d] := rfl
theorem cut1 {a b : D} : cutD [a, b] (some 1) none = [b] := rfl
/-- one part's words are added -/
theorem ext_turn {k : Nat} {f : F} {d0 : D} {ws : List Str} {xc : XC} {o : Option Sv} {N : PEnv → Prop} {rt bk ct} (ih : ∀ (P : Sv → Option M → Prop) (PX : Exn → Option M → Prop), P (.own (.lst (sD f.w))) none → semI 2 1 false (b_formula_words k) none [f.d] P PX) (ho : nbo o) (hl : ws.length + f.w.length ≤ 100000) (h : N [vd d0, vl (sD (ws ++ f.w)), vd f.d]) :
    gP 2 (.val f.d) [vd d0, vl (sD ws), o] fun e1 => sDrop (pExtend 1 (pCall (semI 2 1 false (b_formula_words k)) xc (pCons (pVar 2) pNil))) { nx := N, rt := rt, bk := bk, ct := ct } e1 := by
  refine ⟨nb ho, ?_⟩
  refine norm [vd d0, vl (sD ws), vd f.d] rfl ?_
  refine ⟨⟨_, rfl, rfl⟩, ?_⟩
  refine ih _ _ ⟨trivial, ?_⟩
  refine ⟨_, _, _, rfl, rfl, rfl, ?_, ?_⟩
  · rw [List.length_map, List.length_map]
    exact big (by omega)
  · refine norm [vd d0, vl (sD (ws ++ f.w)), vd f.d] (by simp [sD, reHold]) h
theorem w_fw : ∀ (f : F) (k : Nat) (P : Sv → Option M → Prop) (PX : Exn → Option M → Prop), f.dep ≤ k → f.sm → f.w.length ≤ 1000 → P (.own (.lst (sD f.w))) none → semI 2 1 false (b_formula_words k) none [f.d] P PX
  | .most a b, k, P, PX, hk, hs, hl, h => by
    obtain ⟨k, rfl⟩ : ∃ j, k = j + 1 := ⟨k - 1, by have : 1 ≤ k := hk; omega⟩
    unfold semI
    refine ⟨⟨rfl, rfl⟩, ?_⟩
    refine ⟨⟨_, rfl⟩, _, rfl, "most", rfl, ?_⟩
    refine ifT (by decide +kernel) ?_
    refine ⟨⟨_, rfl⟩, _, rfl, sl (n := 1) (by decide), ⟨_, rfl⟩, ?_⟩
    refine w_row_words (ns := [a, b]) (by simp) (by intro n hn; simp at hn; rcases hn with rfl | rfl; exact hs.1; exact hs.2) ⟨trivial, ?_⟩
    exact ⟨sl (n := 3) (by decide), trivial, h⟩
  | .rest a b c, k, P, PX, hk, hs, hl, h => by
    obtain ⟨k, rfl⟩ : ∃ j, k = j + 1 := ⟨k - 1, by have : 1 ≤ k := hk; omega⟩
    unfold semI
    refine ⟨⟨rfl, rfl⟩, ?_⟩
    refine ⟨⟨_, rfl⟩, _, rfl, "rest", rfl, ?_⟩
    refine ifT (by decide +kernel) ?_
    refine ⟨⟨_, rfl⟩, _, rfl, sl (n := 1) (by decide), ⟨_, rfl⟩, ?_⟩
    refine w_row_words (ns := [a, b, c]) (by simp) (by intro n hn; simp at hn; rcases hn with rfl | rfl | rfl; exact hs.1; exact hs.2.1; exact hs.2.2) ⟨trivial, ?_⟩
    exact ⟨sl (n := 4) (by decide), trivial, h⟩
  | .nt f, k, P, PX, hk, hs, hl, h => by
    have hk : f.dep + 1 ≤ k := hk
    have hl : f.w.length + 1 ≤ 1000 := hl
    obtain ⟨k, rfl⟩ : ∃ j, k = j + 1 := ⟨k - 1, by omega⟩
    unfold semI
    refine ⟨⟨rfl, rfl⟩, ?_⟩
    refine ⟨⟨_, rfl⟩, _, rfl, "not", rfl, ?_⟩
    refine ifF (by decide +kernel) ?_
    refine ⟨⟨_, rfl⟩, _, rfl, sl (n := 1) (by decide), nb rfl, ?_⟩
    refine norm [vd (F.nt f).d, vl (sD ["not"]), v0] rfl ?_
    refine ⟨⟨_, rfl⟩, ?_⟩
    refine (show forL (gP 2) _ [f.d] _ _ from ?_)
    refine ext_turn (f := f) (fun P PX h => w_fw f k P PX (by omega) hs (by omega) h) rfl (by simp; omega) ?_
    exact ⟨trivial, h⟩
  | .two b f g, k, P, PX, hk, hs, hl, h => by
    have hk : max f.dep g.dep + 1 ≤ k := hk
    have hl : (f.w ++ g.w).length + 1 ≤ 1000 := hl
    rw [List.length_append] at hl
    obtain ⟨k, rfl⟩ : ∃ j, k = j + 1 := ⟨k - 1, by omega⟩
    unfold semI
    refine ⟨⟨rfl, rfl⟩, ?_⟩
    refine ⟨⟨_, rfl⟩, _, rfl, tw b, rfl, ?_⟩
    refine ifF (by cases b <;> decide +kernel) ?_
    refine ⟨⟨_, rfl⟩, _, rfl, sl (n := 1) (by decide), nb rfl, ?_⟩
    refine norm [vd (F.two b f g).d, vl (sD [tw b]), v0] rfl ?_
    refine ⟨⟨_, rfl⟩, ?_⟩
    refine (show forL (gP 2) _ [f.d, g.d] _ _ from ?_)
    refine ext_turn (f := f) (fun P PX h => w_fw f k P PX (by omega) hs.1 (by omega) h) rfl (by simp; omega) ?_
    refine ext_turn (f := g) (fun P PX h => w_fw g k P PX (by omega) hs.2 (by omega) h) rfl (by simp; omega) ?_
    refine ⟨trivial, ?_⟩
    rw [show ([tw b] ++ f.w ++ g.w : List Str) = (F.two b f g).w by simp [F.w]]
    exact h
theorem F.wlen : ∀ (f : F), f.sm → (f.w.map (·.length)).sum ≤ 60 * f.w.length
  | .most a b, h => by
    have := nst_len h.1
    have := nst_len h.2
    have e : (("most" : Str)).length = 4 := by decide +kernel
    simp only [F.w, List.map_cons, List.map_nil, List.sum_cons, List.sum_nil, List.length_cons, List.length_nil]
    omega
  | .rest a b c, h => by
    have := nst_len h.1
    have := nst_len h.2.1
    have := nst_len h.2.2
    have e : (("rest" : Str)).length = 4 := by decide +kernel
    simp only [F.w, List.map_cons, List.map_nil, List.sum_cons, List.sum_nil, List.length_cons, List.length_nil]
    omega
  | .nt f, h => by
    have := f.wlen h
    have e : (("not" : Str)).length = 3 := by decide +kernel
    simp only [F.w, List.map_cons, List.sum_cons, List.length_cons]
    omega
  | .two b f g, h => by
    have := f.wlen h.1
    have := g.wlen h.2
    have e : (tw b).length ≤ 3 := by cases b <;> decide +kernel
    simp only [F.w, List.map_cons, List.sum_cons, List.length_cons, List.map_append, List.sum_append, List.length_append]
    omega
theorem w_told {f : F} (hk : f.dep ≤ 16) (hs : f.sm) (hl : f.w.length ≤ 1000) (h : P (.val (.str (jn f.w))) none) : sp_told_formula none [f.d] P PX := by
  unfold sp_told_formula
  refine ⟨⟨rfl, rfl⟩, ?_⟩
  have e : sp_formula_words = semI 2 1 false (b_formula_words 16) := by unfold sp_formula_words; rfl
  refine ⟨_, rfl, ?_⟩
  rw [e]
  refine w_fw f 16 _ _ hk hs hl ⟨trivial, ?_⟩
  refine ⟨f.w, .inl rfl, ?_, trivial, h⟩
  have := f.wlen hs
  have e1 : ((" " : Str)).length = 1 := by decide +kernel
  rw [e1]
  omega
theorem F.blank : ∀ (f : F), ∀ w ∈ f.w, 32 ∉ tl w
  | .most a b, w, hw => by
    simp only [F.w, List.mem_cons, List.not_mem_nil, or_false] at hw
    rcases hw with rfl | rfl | rfl
    · decide +kernel
    · exact nst_free (by decide)
    · exact nst_free (by decide)
  | .rest a b c, w, hw => by
    simp only [F.w, List.mem_cons, List.not_mem_nil, or_false] at hw
    rcases hw with rfl | rfl | rfl | rfl
    · decide +kernel
    · exact nst_free (by decide)
    · exact nst_free (by decide)
    · exact nst_free (by decide)
  | .nt f, w, hw => by
    rcases List.mem_cons.mp hw with rfl | hw
    · decide +kernel
    · exact f.blank w hw
  | .two b f g, w, hw => by
    rcases List.mem_cons.mp hw with rfl | hw
    · cases b <;> decide +kernel
    · rcases List.mem_append.mp hw with hw | hw
      · exact f.blank w hw
      · exact g.blank w hw
theorem F.wd (f : F) : Wd f.w := ⟨by have := f.wpos; intro e; rw [e] at this; exact absurd this (by decide), f.blank⟩
/-- the formula as the model's plain data -/
def F.p : F → PyData
  | .most a b => .tuple [.str "most", .int a, .int b]
  | .rest a b c => .tuple [.str "rest", .int a, .int b, .int c]
  | .nt f => .tuple [.str "not", f.p]
  | .two k f g => .tuple [.str (tw k), f.p, g.p]
theorem F.py : ∀ f : F, f.d.toPy = some f.p
  | .most a b => rfl
  | .rest a b c => rfl
  | .nt f => by
    unfold F.d F.p D.toPy
    simp [D.toPyL, D.toPy, F.py f]
  | .two k f g => by
    unfold F.d F.p D.toPy
    simp [D.toPyL, D.toPy, F.py f, F.py g]
theorem F.lay : ∀ f : F, f.p.canLay0 = true
  | .most a b => by
    show (PyData.strOk ("most" : Str) && _) = true
    rw [show PyData.strOk ("most" : Str) = true by decide +kernel]
    rfl
  | .rest a b c => by
    show (PyData.strOk ("rest" : Str) && _) = true
    rw [show PyData.strOk ("rest" : Str) = true by decide +kernel]
    rfl
  | .nt f => by
    show (PyData.strOk ("not" : Str) && (f.p.canLay0 && true)) = true
    rw [show PyData.strOk ("not" : Str) = true by decide +kernel, f.lay]
    rfl
  | .two k f g => by
    show (PyData.strOk (tw k) && (f.p.canLay0 && (g.p.canLay0 && true))) = true
    rw [show PyData.strOk (tw k) = true by cases k <;> decide +kernel, f.lay, g.lay]
    rfl
theorem F.pdep : ∀ f : F, f.p.depth ≤ f.dep
  | .most a b => by
    simp [F.p, PyData.depth, PyData.depthAll, F.dep]
  | .rest a b c => by
    simp [F.p, PyData.depth, PyData.depthAll, F.dep]
  | .nt f => by
    have := f.pdep
    simp [F.p, PyData.depth, PyData.depthAll, F.dep]
    omega
  | .two k f g => by
    have := f.pdep
    have := g.pdep
    simp [F.p, PyData.depth, PyData.depthAll, F.dep]
    omega
theorem F.show : ∀ f : F, f.sm → f.p.showable = true
  | .most a b, h => by
    have h1 := log_sm h.1
    have h2 := log_sm h.2
    simp only [F.p, PyData.showable, PyData.showableAll, Bool.true_and, Bool.and_true, Bool.and_eq_true, decide_eq_true_eq]
    exact ⟨h1, h2⟩
  | .rest a b c, h => by
    have h1 := log_sm h.1
    have h2 := log_sm h.2.1
    have h3 := log_sm h.2.2
    simp only [F.p, PyData.showable, PyData.showableAll, Bool.true_and, Bool.and_true, Bool.and_eq_true, decide_eq_true_eq]
    exact ⟨h1, h2, h3⟩
  | .nt f, h => by
    simp only [F.p, PyData.showable, PyData.showableAll, Bool.true_and, Bool.and_true]
    exact f.show h
  | .two k f g, h => by
    simp only [F.p, PyData.showable, PyData.showableAll, Bool.true_and, Bool.and_true, Bool.and_eq_true]
    exact ⟨f.show h.1, g.show h.2⟩
theorem F.slen : ∀ f : F, f.sm → f.p.shown.length + 100 ≤ 100 * f.w.length
  | .most a b, h => by
    have h1 := nst_len h.1
    have h2 := nst_len h.2
    have e : (PyData.shown (.str "most")).length ≤ 20 := by decide +kernel
    have := tupleText_len_le [PyData.shown (.str "most"), nst a, nst b]
    simp only [List.map_cons, List.map_nil, List.sum_cons, List.sum_nil, List.length_cons, List.length_nil] at this
    show (tupleText [PyData.shown (.str "most"), nst a, nst b]).length + 100 ≤ 100 * 3
    omega
  | .rest a b c, h => by
    have h1 := nst_len h.1
    have h2 := nst_len h.2.1
    have h3 := nst_len h.2.2
    have e : (PyData.shown (.str "rest")).length ≤ 20 := by decide +kernel
    have := tupleText_len_le [PyData.shown (.str "rest"), nst a, nst b, nst c]
    simp only [List.map_cons, List.map_nil, List.sum_cons, List.sum_nil, List.length_cons, List.length_nil] at this
    show (tupleText [PyData.shown (.str "rest"), nst a, nst b, nst c]).length + 100 ≤ 100 * 4
    omega
  | .nt f, h => by
    have h1 := f.slen h
    have e : (PyData.shown (.str "not")).length ≤ 20 := by decide +kernel
    have := tupleText_len_le [PyData.shown (.str "not"), f.p.shown]
    simp only [List.map_cons, List.map_nil, List.sum_cons, List.sum_nil, List.length_cons, List.length_nil] at this
    show (tupleText [PyData.shown (.str "not"), f.p.shown]).length + 100 ≤ 100 * (f.w.length + 1)
    omega
  | .two k f g, h => by
    have h1 := f.slen h.1
    have h2 := g.slen h.2
    have e : (PyData.shown (.str (tw k))).length ≤ 20 := by cases k <;> decide +kernel
    have := tupleText_len_le [PyData.shown (.str (tw k)), f.p.shown, g.p.shown]
    simp only [List.map_cons, List.map_nil, List.sum_cons, List.sum_nil, List.length_cons, List.length_nil] at this
    show (tupleText [PyData.shown (.str (tw k)), f.p.shown, g.p.shown]).length + 100 ≤ 100 * ((f.w ++ g.w).length + 1)
    rw [List.length_append]
    omega
end
end K90
set_option Elab.async false
set_option linter.all false
set_option maxRecDepth 100000
set_option maxHeartbeats 400000
namespace K90
open PySem PySem.Spec PyProof.Rows L2 PL PLX TL
section
variable {P : Sv → Option M → Prop} {PX : Exn → Option M → Prop} {m : M}
def errs : List Str := ["length", "depth", "number", "word"]
theorem num1_err {ws : List Str} {e : Str} (h : num1 ws = .error e) : e ∈ errs := by
  cases ws with
  | nil => cases h; decide
  | cons w ws =>
    have h : (if isFig w = true then .ok (val w, ws) else .error "number" : Except Str (Nat × List Str)) = .error e := h
    by_cases f : isFig w = true
    · rw [if_pos f] at h; cases h
    · rw [if_neg f] at h; cases h; decide
theorem pf_err : ∀ {n : Nat} {ws : List Str} {e : Str}, pf n ws = .error e → e ∈ errs
  | n, [], e, h => by
    have : pf n [] = .error ("length" : Str) := by cases n <;> rfl
    rw [this] at h; cases h; decide
  | 0, _ :: _, e, h => by cases h; decide
  | n + 1, w :: ws, e, h => by
    by_cases w1 : w = "most"
    · subst w1
      rw [pf_most] at h
      cases h1 : num1 ws with
      | error x => rw [h1] at h; cases h; exact num1_err h1
      | ok z =>
        obtain ⟨a, r⟩ := z
        rw [h1] at h
        dsimp only at h
        cases h2 : num1 r with
        | error x => rw [h2] at h; cases h; exact num1_err h2
        | ok z => rw [h2] at h; cases h
    by_cases w2 : w = "rest"
    · subst w2
      rw [pf_rest] at h
      cases h1 : num1 ws with
      | error x => rw [h1] at h; cases h; exact num1_err h1
      | ok z =>
        obtain ⟨a, r⟩ := z
        rw [h1] at h
        dsimp only at h
        cases h2 : num1 r with
        | error x => rw [h2] at h; cases h; exact num1_err h2
        | ok z =>
          obtain ⟨b, r⟩ := z
          rw [h2] at h
          dsimp only at h
          cases h3 : num1 r with
          | error x => rw [h3] at h; cases h; exact num1_err h3
          | ok z => rw [h3] at h; cases h
    by_cases w3 : w = "not"
    · subst w3
      rw [pf_not] at h
      cases h1 : pf n ws with
      | error x => rw [h1] at h; cases h; exact pf_err h1
      | ok z => rw [h1] at h; cases h
    by_cases w4 : w = "and" ∨ w = "or"
    · obtain ⟨k, rfl⟩ : ∃ k, w = tw k := by
        rcases w4 with rfl | rfl
        · exact ⟨true, rfl⟩
        · exact ⟨false, rfl⟩
      rw [pf_two] at h
      cases h1 : pf n ws with
      | error x => rw [h1] at h; cases h; exact pf_err h1
      | ok z =>
        obtain ⟨a, r⟩ := z
        rw [h1] at h
        dsimp only at h
        cases h2 : pf n r with
        | error x => rw [h2] at h; cases h; exact pf_err h2
        | ok z => rw [h2] at h; cases h
    rw [pf_word n ws w1 w2 w3 (fun e => w4 (.inl e)) (fun e => w4 (.inr e))] at h
    cases h
    decide
theorem eq_bad {e : Str} {i : Int} (h : e ∈ errs) : eqD (.tup [.str "bad", .int 1, .str e]) (.tup [.str "bad", .int 1, .str e]) = some true ∧ e ≠ "" := by
  unfold errs at h
  simp only [List.mem_cons, List.not_mem_nil, or_false] at h
  rcases h with rfl | rfl | rfl | rfl <;> decide +kernel
theorem F.tup (f : F) : ∃ ds, f.d = .tup ds := by cases f <;> exact ⟨_, rfl⟩
theorem F.eqd (f : F) (h : f.dep ≤ 60) : eqD f.d f.d = some true := by
  have hp := f.py
  have hl := f.lay
  have hd := f.pdep
  obtain ⟨ds, e⟩ := f.tup
  rw [e] at hp ⊢
  have sh : SeqAt.shaped f.p = true := by
    unfold SeqAt.shaped
    rw [hl, decide_eq_true (by omega)]
    rfl
  unfold eqD
  dsimp only
  rw [hp]
  dsimp only
  rw [if_pos ⟨sh, sh⟩, PySem.SeqAt.eqv_refl _ hl]
theorem w_lright {ws : List Str} (hw : Wd ws) (hl : (jn ws).length ≤ 20000) (hc : ws.length ≤ 1000) (h : P (.val (.bl true)) none) : sp__law_right none [.lst (sD ws)] P PX := by
  have sz : (20002 : Nat) ≤ sizeLine := by decide
  have e0 := len_jn hw
  have lw : ws.length ≤ 20001 := by omega
  have hs : ∀ w ∈ ws, w.length ≤ sizeLine := fun w m => Nat.le_trans (mem_len hw m) (Nat.le_trans hl (Nat.le_trans (by decide) sz))
  have e1 : ((" " : Str)).length = 1 := by decide +kernel
  unfold sp__law_right
  refine ⟨⟨rfl, rfl⟩, ?_⟩
  refine ⟨_, rfl, ws, .inl rfl, by rw [e1]; omega, nb rfl, ?_⟩
  refine norm [vd (.lst (sD ws)), vd (.str (jn ws)), v0, v0, v0] rfl ?_
  refine w_due hs (by omega) ⟨trivial, nb rfl, ?_⟩
  refine norm [vd (.lst (sD ws)), vd (.str (jn ws)), vd (.str (due [1] ws)), v0, v0] rfl ?_
  refine w_lread hw hl ⟨trivial, nb rfl, ?_⟩
  refine norm [vd (.lst (sD ws)), vd (.str (jn ws)), vd (.str (due [1] ws)), vd (lrD (pf 8 ws)), v0] rfl ?_
  have dw := due_whole ws
  have cs : (∃ e, e ∈ errs ∧ due [1] ws = e ∧ lrD (pf 8 ws) = .tup [.str "bad", .int 1, .str e]) ∨ ∃ f, pf 8 ws = .ok (f, []) := by
    cases hp : pf 8 ws with
    | error e =>
      rw [hp] at dw
      exact .inl ⟨e, pf_err hp, dw, rfl⟩
    | ok z =>
      obtain ⟨f, r⟩ := z
      rw [hp] at dw
      cases r with
      | cons v r => exact .inl ⟨"length", by decide, dw, rfl⟩
      | nil => exact .inr ⟨f, rfl⟩
  rcases cs with ⟨e, he, hd, hp⟩ | ⟨f, hp⟩
  · obtain ⟨q1, q2⟩ := eq_bad (i := 0) he
    rw [hd, hp]
    refine ⟨_, rfl, ?_⟩
    refine ifT (by rw [decide_eq_false q2]; rfl) ?_
    refine ⟨sl (n := 3) (by decide), _, q1, ?_⟩
    refine w_lread hw hl ⟨trivial, ?_⟩
    rw [hp]
    exact ⟨_, q1, trivial, h⟩
  · have dw : due [1] ws = "" := by rw [dw, hp]
    obtain ⟨ew, fs, fd⟩ := pf_ok hp
    rw [List.append_nil] at ew
    rw [dw, hp]
    have fl : f.w.length ≤ 20001 := by rw [← ew]; exact lw
    refine ⟨_, rfl, ?_⟩
    refine ifF (by decide +kernel) ?_
    have hh : ∀ P PX, P (.val f.d) none → sp__law_read_by_hand none [.lst (sD ws)] P PX := fun P PX h => by rw [ew]; exact w_hand fs (by omega) h
    refine hh _ _ ⟨trivial, nb rfl, ?_⟩
    refine norm [vd (.lst (sD ws)), vd (.str (jn ws)), vd (.str ""), vd (.tup [.str "read", f.d, .str ""]), vd f.d] rfl ?_
    refine ⟨⟨_, rfl⟩, _, rfl, _, rfl, ?_⟩
    refine ifF (by decide +kernel) ?_
    refine ⟨⟨_, rfl⟩, _, rfl, _, f.eqd (by omega), ?_⟩
    refine ifF rfl ?_
    obtain ⟨ds, ed⟩ := f.tup
    have it : f.d.items.isSome = true := by rw [ed]; rfl
    have sl := f.slen fs
    have pd := f.pdep
    have z : f.p.shown.length ≤ sizeLine := Nat.le_trans (show _ ≤ 100 * 20001 by omega) (by decide)
    refine ⟨⟨_, rfl⟩, _, rfl, f.p, f.py, it, f.show fs, by omega, z, f.p, f.py, it, f.show fs, by omega, z, _, rfl, ?_⟩
    refine ifF (by rw [decide_eq_true rfl]; rfl) ?_
    refine ⟨⟨_, rfl⟩, _, rfl, ?_⟩
    refine w_told (by omega) fs (by rw [← ew]; exact hc) ⟨trivial, _, rfl, ?_⟩
    rw [ew, decide_eq_true rfl]
    exact ⟨trivial, h⟩
/-- the law's own words -/
theorem lw_step {f : F} {N : PEnv → Prop} : True := trivial
end
end K90
set_option Elab.async false
set_option linter.all false
set_option maxRecDepth 100000
set_option maxHeartbeats 400000
namespace K90
open PySem PySem.Spec PyProof.Rows L2 PL PLX TL
section
variable {P : Sv → Option M → Prop} {PX : Exn → Option M → Prop} {m : M}
abbrev wS (d0 : D) (wt ac : List D) (o3 o4 o5 : Option Sv) : PEnv := [vd d0, vl wt, vl ac, o3, o4, o5]
abbrev wS2 (d0 : D) (wt : List D) (o2 o3 o4 o5 : Option Sv) : PEnv := [vd d0, vl wt, o2, o3, o4, o5]
theorem lc_str {d0 : D} {wt : List D} {o2 o3 o4 o5 : Option Sv} {ns : List Nat} {P : List D → PEnv → Prop} (hl : ns.length ≤ 1000) (hs : ∀ n ∈ ns, n < 10 ^ 60) (ho : nbo o5) (h : ∀ o5, P (sD (ns.map nst)) (wS2 d0 wt o2 o3 o4 o5)) :
    lcL (gP 5) pYes (pBlt .str_ (pLast (pPk 5))) [5] (nD ns) [] (wS2 d0 wt o2 o3 o4 o5) P := by
  refine lcL_ix (fun i acc e => acc = sD ((ns.take i).map nst) ∧ ∃ o, e = wS2 d0 wt o2 o3 o4 o ∧ nbo o) ⟨rfl, _, rfl, ho⟩ (fun i d acc e N hi hI hN => ?_) (fun acc e hI => ?_)
  · obtain ⟨rfl, o, rfl, ho⟩ := hI
    rw [List.getElem?_map] at hi
    cases hc : ns[i]? with
    | none => rw [hc] at hi; cases hi
    | some n =>
      rw [hc] at hi
      cases hi
      have hil := (List.getElem?_eq_some_iff.mp hc).1
      refine ⟨nb rfl, log_sm (hs n (List.mem_of_getElem? hc)), ?_, hN _ _ ⟨?_, _, rfl, rfl⟩⟩
      · rw [List.length_map, List.length_map, List.length_take]
        exact Nat.lt_of_lt_of_le (by omega : min i ns.length < 1000) (sl (n := 1000) (by decide))
      · rw [List.take_add_one, hc, List.map_append]
        show _ = (List.map nst (List.take i ns) ++ [nst n]).map D.str
        rw [List.map_append]
        rfl
  · obtain ⟨rfl, o, rfl, ho⟩ := hI
    rw [List.length_map, List.take_length]
    exact h _
abbrev fD (fs : List F) : List D := fs.map F.d
abbrev fW (fs : List F) : List Str := (fs.map F.w).flatten
def lwB : pS := (sSeq (sAsg (pPop 1) (gP 3))
    (sSeq (sDrop (pAppend 2 (pIxN 3 (pF (pC (.int 0))))))
    (sIf (pB (pOp (cmpB .In) (pIxN 3 (pF (pC (.int 0)))) (pF (pTup (pCons (pC (.str "most")) (pCons (pC (.str "rest")) pNil))))))
      (sAsg (pOp (opB .Add) (pVar 2) (pF (pLc (iVal (pSlN 3 (some (pC (.int 1))) none)) (gP 5) pYes (pBlt .str_ (pLast (pPk 5))) [5]))) (gP 2))
      (pFor (iRange3 (pOp (opB .Sub) (pBlt .len (pLast (pPk 3))) (pF (pC (.int 1)))) (pC (.int 0)) (pUn (unB .USub) (pC (.int 1)))) (gP 4)
        (sDrop (pAppend 1 (pIxN 3 (pPk 4))))))))
theorem lw_turn {d0 : D} {f : F} {fs : List F} {acc : List Str} {o3 o4 o5 : Option Sv} {N : PEnv → Prop} {rt bk ct} (hs : f.sm) (hl : acc.length ≤ 1000) (hf : fs.length ≤ 1000) (h3 : nbo o3) (h4 : nbo o4) (h5 : nbo o5)
    (h : ∀ (gs : List F) (as : List Str) o3 o4 o5, nbo o3 → nbo o4 → nbo o5 → as ++ fW gs = f.w → (∀ g ∈ gs, g.sm) → as ≠ [] → N (wS d0 (fD (gs ++ fs).reverse) (sD (acc ++ as)) o3 o4 o5)) :
    lwB { nx := N, rt := rt, bk := bk, ct := ct } (wS d0 (fD (f :: fs).reverse) (sD acc) o3 o4 o5) := by
  have e1 : fD (f :: fs).reverse = fD fs.reverse ++ [f.d] := by simp [fD]
  rw [e1]
  have hl' : (sD acc).length ≤ 1000 := by rw [List.length_map]; exact hl
  refine ⟨_, _, _, rfl, rfl, last_at, nb h3, ?_⟩
  refine norm (wS d0 (fD fs.reverse) (sD acc) (vd f.d) o4 o5) (by simp [wS, List.dropLast_concat, reHold]) ?_
  have app : ∀ w : Str, sD acc ++ [.str w] = sD (acc ++ [w]) := fun w => by simp [sD]
  have app2 : ∀ (ns : List Nat) (w : Str), sD (acc ++ [w]) ++ sD (ns.map nst) = sD (acc ++ (w :: ns.map nst)) := fun ns w => by simp [sD]
  cases f with
  | most a b =>
    refine ⟨⟨_, rfl, rfl⟩, ⟨_, rfl⟩, _, rfl, _, _, rfl, rfl, Nat.lt_of_le_of_lt hl' (by decide), ?_⟩
    refine norm (wS d0 (fD fs.reverse) (sD (acc ++ [("most" : Str)])) (vd (F.most a b).d) o4 o5) (by rw [← app]; rfl) ?_
    refine ⟨⟨_, rfl⟩, _, rfl, sl (n := 2) (by decide), rfl, rfl, ?_⟩
    refine ifT (by decide +kernel) ?_
    refine ⟨⟨_, rfl⟩, ?_⟩
    refine (show lcL (gP 5) pYes (pBlt .str_ (pLast (pPk 5))) [5] (nD [a, b]) [] (wS2 d0 (fD fs.reverse) (vd (.lst (sD (acc ++ [("most" : Str)])))) (vd (F.most a b).d) o4 o5) _ from ?_)
    refine lc_str (by simp) (by intro n hn; simp at hn; rcases hn with rfl | rfl; exact hs.1; exact hs.2) h5 fun o5 => ?_
    refine ⟨?_, nb rfl, ?_⟩
    · simp only [List.length_map, List.length_append, List.length_cons, List.length_nil]
      exact big (by omega)
    have := h [] ["most", nst a, nst b] (vd (F.most a b).d) o4 v0 rfl h4 rfl (by simp [F.w]) (by simp) (by simp)
    refine norm _ ?_ this
    show [vd d0, vl (fD fs.reverse), vl (sD (acc ++ [("most" : Str)]) ++ sD ([a, b].map nst)), _, o4, v0] = _
    rw [app2]
    rfl
  | rest a b c =>
    refine ⟨⟨_, rfl, rfl⟩, ⟨_, rfl⟩, _, rfl, _, _, rfl, rfl, Nat.lt_of_le_of_lt hl' (by decide), ?_⟩
    refine norm (wS d0 (fD fs.reverse) (sD (acc ++ [("rest" : Str)])) (vd (F.rest a b c).d) o4 o5) (by rw [← app]; rfl) ?_
    refine ⟨⟨_, rfl⟩, _, rfl, sl (n := 2) (by decide), rfl, rfl, ?_⟩
    refine ifT (by decide +kernel) ?_
    refine ⟨⟨_, rfl⟩, ?_⟩
    refine (show lcL (gP 5) pYes (pBlt .str_ (pLast (pPk 5))) [5] (nD [a, b, c]) [] (wS2 d0 (fD fs.reverse) (vd (.lst (sD (acc ++ [("rest" : Str)])))) (vd (F.rest a b c).d) o4 o5) _ from ?_)
    refine lc_str (by simp) (by intro n hn; simp at hn; rcases hn with rfl | rfl | rfl; exact hs.1; exact hs.2.1; exact hs.2.2) h5 fun o5 => ?_
    refine ⟨?_, nb rfl, ?_⟩
    · simp only [List.length_map, List.length_append, List.length_cons, List.length_nil]
      exact big (by omega)
    have := h [] ["rest", nst a, nst b, nst c] (vd (F.rest a b c).d) o4 v0 rfl h4 rfl (by simp [F.w]) (by simp) (by simp)
    refine norm _ ?_ this
    show [vd d0, vl (fD fs.reverse), vl (sD (acc ++ [("rest" : Str)]) ++ sD ([a, b, c].map nst)), _, o4, v0] = _
    rw [app2]
    rfl
  | nt g =>
    refine ⟨⟨_, rfl, rfl⟩, ⟨_, rfl⟩, _, rfl, _, _, rfl, rfl, Nat.lt_of_le_of_lt hl' (by decide), ?_⟩
    refine norm (wS d0 (fD fs.reverse) (sD (acc ++ [("not" : Str)])) (vd (F.nt g).d) o4 o5) (by rw [← app]; rfl) ?_
    refine ⟨⟨_, rfl⟩, _, rfl, sl (n := 2) (by decide), rfl, rfl, ?_⟩
    refine ifF (by decide +kernel) ?_
    refine ⟨_, _, _, 1, rfl, rfl, rfl, RgC.neg (i := 1) (j := 0) (by decide) (by decide) (by decide) (by decide), ?_⟩
    refine ⟨nb h4, ⟨_, rfl, rfl⟩, ⟨_, rfl⟩, _, rfl, _, _, rfl, rfl, ?_, ?_⟩
    · rw [List.length_map, List.length_reverse]
      exact Nat.lt_of_le_of_lt hf (by decide)
    have := h [g] ["not"] (vd (F.nt g).d) (vi 1) o5 rfl rfl h5 (by simp [F.w, fW]) (by intro x hx; simp at hx; subst hx; exact hs) (by simp)
    refine norm _ ?_ this
    simp [fD, wS, reHold]
  | two k g g2 =>
    refine ⟨⟨_, rfl, rfl⟩, ⟨_, rfl⟩, _, rfl, _, _, rfl, rfl, Nat.lt_of_le_of_lt hl' (by decide), ?_⟩
    refine norm (wS d0 (fD fs.reverse) (sD (acc ++ [tw k])) (vd (F.two k g g2).d) o4 o5) (by rw [← app]; rfl) ?_
    refine ⟨⟨_, rfl⟩, _, rfl, sl (n := 2) (by decide), rfl, rfl, ?_⟩
    refine ifF (by cases k <;> decide +kernel) ?_
    refine ⟨_, _, _, 2, rfl, rfl, rfl, RgC.neg (i := 2) (j := 0) (by decide) (by decide) (by decide) (by decide), ?_⟩
    refine ⟨nb h4, ⟨_, rfl, rfl⟩, ⟨_, rfl⟩, _, rfl, _, _, rfl, rfl, ?_, ?_⟩
    · rw [List.length_map, List.length_reverse]
      exact Nat.lt_of_le_of_lt hf (by decide)
    refine ⟨nb rfl, ⟨_, rfl, rfl⟩, ⟨_, rfl⟩, _, rfl, _, _, rfl, rfl, ?_, ?_⟩
    · rw [List.length_append, List.length_map, List.length_reverse]
      exact Nat.lt_of_le_of_lt (Nat.add_le_add_right hf 1) (by decide)
    have := h [g, g2] [tw k] (vd (F.two k g g2).d) (vi 1) o5 rfl rfl h5 (by simp [F.w, fW]) (by intro x hx; simp at hx; rcases hx with rfl | rfl; exact hs.1; exact hs.2) (by simp)
    refine norm _ ?_ this
    simp [fD, wS, reHold]
theorem w_lwords {f : F} (hs : f.sm) (hl : f.w.length ≤ 900) (h : P (.own (.lst (sD f.w))) none) : sp__law_words none [f.d] P PX := by
  unfold sp__law_words
  refine ⟨⟨rfl, rfl⟩, ?_⟩
  refine ⟨sl (n := 1) (by decide), nb rfl, sl (n := 0) (by decide), nb rfl, ?_⟩
  refine norm (wS f.d [f.d] [] v0 v0 v0) rfl ?_
  refine ⟨fun m e => ∃ (fs : List F) (acc : List Str) (o3 o4 o5 : Option Sv), nbo o3 ∧ nbo o4 ∧ nbo o5 ∧ m = (fW fs).length ∧ (∀ g ∈ fs, g.sm) ∧ acc ++ fW fs = f.w ∧ fs.length ≤ (fW fs).length ∧ e = wS f.d (fD fs.reverse) (sD acc) o3 o4 o5,
    ⟨_, [f], [], v0, v0, v0, rfl, rfl, rfl, rfl, by simpa using hs, by simp [fW], by have := f.wpos; simpa [fW] using this, rfl⟩, ?_⟩
  rintro m e ⟨fs, acc, o3, o4, o5, h3, h4, h5, rfl, hg, he, hf, rfl⟩
  cases fs with
  | nil =>
    have ea : acc = f.w := by simpa [fW] using he
    subst ea
    exact ⟨trivial, h⟩
  | cons g fs =>
    refine ifT (decide_eq_true (by simp)) ?_
    have el := congrArg List.length he
    have e2 : (fW (g :: fs)).length = g.w.length + (fW fs).length := by simp [fW]
    rw [List.length_append] at el
    refine ⟨fun e => ∃ (gs : List F) (as : List Str) (o3 o4 o5 : Option Sv), nbo o3 ∧ nbo o4 ∧ nbo o5 ∧ as ++ fW gs = g.w ∧ (∀ g ∈ gs, g.sm) ∧ as ≠ [] ∧ e = wS f.d (fD (gs ++ fs).reverse) (sD (acc ++ as)) o3 o4 o5, ?_, ?_⟩
    · rintro e ⟨gs, as, o3, o4, o5, h3, h4, h5, k1, k2, k3, rfl⟩
      have e3 : fW (gs ++ fs) = fW gs ++ fW fs := by simp [fW]
      have e4 := congrArg List.length k1
      rw [List.length_append] at e4
      have e5 : 0 < as.length := List.length_pos_iff.mpr k3
      have e6 : ∀ l : List F, l.length ≤ (fW l).length := by
        intro l
        induction l with
        | nil => simp
        | cons a l ih =>
          have := a.wpos
          simp only [fW, List.map_cons, List.flatten_cons, List.length_append, List.length_cons] at ih ⊢
          omega
      refine ⟨(fW (gs ++ fs)).length, by rw [e3, List.length_append]; omega, gs ++ fs, acc ++ as, o3, o4, o5, h3, h4, h5, rfl, ?_, ?_, e6 _, rfl⟩
      · intro x hx
        rcases List.mem_append.mp hx with hx | hx
        · exact k2 x hx
        · exact hg x (List.mem_cons_of_mem _ hx)
      · rw [e3, ← he, List.append_assoc, ← List.append_assoc as, k1]
        simp [fW]
    · have hfl : fs.length ≤ 900 := by
        rw [e2, List.length_cons] at hf
        have := g.wpos
        omega
      exact lw_turn (hg g (List.mem_cons_self)) (by omega) (by omega) h3 h4 h5 fun gs as o3 o4 o5 h3 h4 h5 k1 k2 k3 => ⟨gs, as, o3, o4, o5, h3, h4, h5, k1, k2, k3, rfl⟩
end
end K90
set_option Elab.async false
set_option linter.all false
set_option maxRecDepth 100000
set_option maxHeartbeats 400000
namespace K90
open PySem PySem.Spec PyProof.Rows L2 PL PLX TL
section
variable {P : Sv → Option M → Prop} {PX : Exn → Option M → Prop} {m : M} {n : Int}
theorem range_int {lo : Int} {k i : Nat} {d : D} (h : (rangeD lo k)[i]? = some d) : d = .int (lo + i) ∧ i < k := by
  unfold rangeD at h
  rw [List.getElem?_map] at h
  by_cases hi : i < k
  · rw [List.getElem?_range hi] at h
    exact ⟨(Option.some.inj h).symm, hi⟩
  · rw [List.getElem?_eq_none (by simpa using hi)] at h; cases h
theorem range_len {lo : Int} {k : Nat} : (rangeD lo k).length = k := by simp [rangeD]
theorem ipow_le {a b : Nat} (h : a ≤ b) : (1000000 : Int) ^ a ≤ 1000000 ^ b := by
  have e : ∀ k : Nat, (1000000 : Int) ^ k = ((1000000 ^ k : Nat) : Int) := fun k => by rw [Int.natCast_pow]; rfl
  rw [e, e]
  have := Nat.pow_le_pow_right (show 1000000 > 0 by decide) h
  omega
theorem w_number (hm : DSt m) (h : ∀ r m', DSt m' → 0 ≤ r → r < 10 ^ 36 → P (.val (.int r)) (some m')) : sp__law_number (some m) [] P PX := by
  unfold sp__law_number
  refine ⟨⟨rfl, rfl⟩, ?_⟩
  refine ⟨⟨_, _, rfl, rfl⟩, _, _, rfl, rfl, w_draw hm (by decide) (by decide) fun way m hm g0 g1 => ⟨trivial, _, rfl, nb rfl, ?_⟩⟩
  refine norm [vb m, vi way, v0, v0] rfl ?_
  refine ⟨_, rfl, ?_⟩
  refine ifd (fun h1 => ?_) (fun h1 => ?_)
  · refine ⟨⟨_, _, rfl, rfl⟩, _, _, rfl, rfl, w_draw hm (by decide) (by decide) fun r m hm r0 r1 => ⟨trivial, _, rfl, trivial, ?_⟩⟩
    exact h r m hm (by omega) (by omega)
  refine ⟨_, rfl, ?_⟩
  refine ifd (fun h2 => ?_) (fun h2 => ?_)
  · refine ⟨⟨_, _, rfl, rfl⟩, _, _, rfl, rfl, w_draw hm (by decide) (by decide) fun r m hm r0 r1 => ⟨trivial, _, rfl, trivial, ?_⟩⟩
    exact h r m hm (by omega) (by omega)
  refine ⟨_, rfl, ?_⟩
  refine ifd (fun h3 => ?_) (fun h3 => ?_)
  · refine ⟨⟨_, _, rfl, rfl⟩, _, _, rfl, rfl, w_draw hm (by decide) (by decide) fun r m hm r0 r1 => ⟨trivial, _, rfl, ?_⟩⟩
    refine ⟨cmr (by decide), ?_⟩
    refine ⟨⟨_, _, rfl, rfl⟩, _, _, rfl, rfl, w_draw hm (by decide) (by decide) fun q m hm q0 q1 => ⟨trivial, _, rfl, trivial, ?_⟩⟩
    exact h _ m hm (by omega) (by omega)
  refine ⟨nb rfl, ?_⟩
  refine norm [vb m, vi way, vi 0, v0] rfl ?_
  refine ⟨⟨_, _, rfl, rfl⟩, _, _, rfl, rfl, w_draw hm (by decide) (by decide) fun r m hm r0 r1 => ⟨trivial, _, rfl, ?_⟩⟩
  refine ⟨_, rfl, ⟨by omega, by omega⟩, ?_⟩
  refine forL_ix (fun i e => ∃ m found o, DSt m ∧ 0 ≤ found ∧ found < 1000000 ^ i ∧ e = [vb m, vi way, vi found, o] ∧ isBor (some o) = false) ⟨m, 0, _, hm, by decide, by decide, rfl, rfl⟩ (fun i d e N hi hI hN => ?_) (fun e hI => ?_)
  · obtain ⟨m, found, o, hm, f0, f1, rfl, ho⟩ := hI
    obtain ⟨rfl, hlt⟩ := range_int hi
    refine ⟨nb ho, cmr (by decide), ?_⟩
    refine norm [vb m, vi way, vi found, vi (0 + i)] rfl ?_
    refine ⟨⟨_, _, rfl, rfl⟩, _, _, rfl, rfl, w_draw hm (by decide) (by decide) fun q m hm q0 q1 => ⟨trivial, _, rfl, nb rfl, ?_⟩⟩
    refine hN _ ⟨m, found * 1000000 + q, _, hm, by omega, ?_, rfl, rfl⟩
    rw [Int.pow_succ]
    omega
  · obtain ⟨m, found, o, hm, f0, f1, rfl, ho⟩ := hI
    refine ⟨trivial, h found m hm f0 (Int.lt_of_lt_of_le f1 ?_)⟩
    rw [range_len, show (10 : Int) ^ 36 = 1000000 ^ 6 by decide]
    exact ipow_le (by omega)
theorem w_count (hm : DSt m) (h : ∀ (n : Nat) m', DSt m' → n < 10 ^ 60 → P (.val (dI n)) (some m')) : sp__law_count (some m) [] P PX := by
  have key : ∀ r m', DSt m' → 0 ≤ r → r < 10 ^ 60 → P (.val (.int r)) (some m') := fun r m' hm h0 h1 => by
    have := h r.toNat m' hm (by omega)
    rw [show dI r.toNat = .int r from congrArg D.int (by omega)] at this
    exact this
  unfold sp__law_count
  refine ⟨⟨rfl, rfl⟩, ?_⟩
  refine ⟨⟨_, _, rfl, rfl⟩, _, _, rfl, rfl, w_draw hm (by decide) (by decide) fun way m hm g0 g1 => ⟨trivial, _, rfl, nb rfl, ?_⟩⟩
  refine norm [vb m, vi way] rfl ?_
  refine ⟨_, rfl, ?_⟩
  refine ifd (fun h1 => ?_) (fun h1 => ?_)
  · refine ⟨⟨by decide, by decide, by decide⟩, ?_⟩
    refine ⟨⟨_, _, rfl, rfl⟩, _, _, rfl, rfl, w_draw hm (by decide) (by decide) fun r m hm r0 r1 => ⟨trivial, _, rfl, trivial, ?_⟩⟩
    rw [show (60 : Int).toNat = 60 from rfl]
    exact key _ m hm (by omega) (by omega)
  refine ifd (fun h2 => ?_) (fun h2 => ?_)
  · refine ⟨⟨_, _, rfl, rfl⟩, _, _, rfl, rfl, w_number hm fun r m hm r0 r1 => ⟨trivial, _, rfl, trivial, ?_⟩⟩
    exact key _ m hm r0 (by omega)
  · refine ⟨⟨_, _, rfl, rfl⟩, _, _, rfl, rfl, w_draw hm (by decide) (by decide) fun r m hm r0 r1 => ⟨trivial, _, rfl, trivial, ?_⟩⟩
    exact key _ m hm (by omega) (by omega)
theorem w_atom (hm : DSt m) (h : ∀ (f : F) m', DSt m' → f.sm → f.dep = 1 → f.w.length ≤ 4 → P (.val f.d) (some m')) : sp__law_atom (some m) [] P PX := by
  unfold sp__law_atom
  refine ⟨⟨rfl, rfl⟩, ?_⟩
  refine ⟨⟨_, _, rfl, rfl⟩, _, _, rfl, rfl, w_draw hm (by decide) (by decide) fun way m hm g0 g1 => ⟨trivial, _, rfl, ?_⟩⟩
  refine ⟨_, rfl, ?_⟩
  refine ifd (fun h1 => ?_) (fun h1 => ?_)
  · refine ⟨⟨_, _, rfl, rfl⟩, _, _, rfl, rfl, w_count hm fun a m hm ha => ⟨trivial, _, rfl, ?_⟩⟩
    refine ⟨⟨_, _, rfl, rfl⟩, _, _, rfl, rfl, w_count hm fun b m hm hb => ⟨trivial, _, rfl, ?_⟩⟩
    exact ⟨sl (n := 3) (by decide), trivial, h (.most a b) m hm ⟨ha, hb⟩ rfl (by simp [F.w])⟩
  · refine ⟨⟨_, _, rfl, rfl⟩, _, _, rfl, rfl, w_count hm fun a m hm ha => ⟨trivial, _, rfl, ?_⟩⟩
    refine ⟨⟨_, _, rfl, rfl⟩, _, _, rfl, rfl, w_count hm fun b m hm hb => ⟨trivial, _, rfl, ?_⟩⟩
    refine ⟨⟨_, _, rfl, rfl⟩, _, _, rfl, rfl, w_count hm fun c m hm hc => ⟨trivial, _, rfl, ?_⟩⟩
    exact ⟨sl (n := 4) (by decide), trivial, h (.rest a b c) m hm ⟨ha, hb, hc⟩ rfl (by simp [F.w])⟩
theorem at_some {ds : List D} {r : Int} (h0 : 0 ≤ r) (h1 : r < (ds.length : Nat)) : ∃ d, ds[r.toNat]? = some d ∧ atI ds r = some d := by
  have hl : r.toNat < ds.length := by omega
  refine ⟨ds[r.toNat], by simp [hl], ?_⟩
  unfold atI ixN
  rw [if_pos h0, if_pos h1]
  simp [hl]
theorem w_pick {ds : List D} (hm : DSt m) (hl : 0 < ds.length) (hb : ds.length < 2 ^ 30) (h : ∀ d m', DSt m' → d ∈ ds → P (.val d) (some m')) : sp__law_pick (some m) [.lst ds] P PX := by
  unfold sp__law_pick
  refine ⟨⟨rfl, rfl⟩, ?_⟩
  refine ⟨⟨_, rfl⟩, ⟨_, _, rfl, rfl⟩, _, _, rfl, rfl, w_draw hm (by omega) (by omega) fun r m hm r0 r1 => ⟨trivial, _, rfl, ?_⟩⟩
  obtain ⟨d, h1, h2⟩ := at_some r0 r1
  exact ⟨d, h2, trivial, h d m hm (List.mem_of_getElem? h1)⟩
/-- one pair of the drawing: a formula and its level -/
def prD (q : F × Nat) : D := .tup [q.1.d, dI q.2]
def PrOk (q : F × Nat) : Prop := q.1.sm ∧ q.1.dep = q.2
abbrev wt (l : List (F × Nat)) : Nat := (l.map fun q => q.1.w.length + 1).sum
abbrev mxl (l : List (F × Nat)) (k : Nat) : Prop := ∀ q ∈ l, q.2 + l.length ≤ k
theorem wt_erase : ∀ {l : List (F × Nat)} {i : Nat} {q : F × Nat}, l[i]? = some q → wt (l.eraseIdx i) + (q.1.w.length + 1) = wt l
  | [], i, q, h => by simp at h
  | a :: l, 0, q, h => by
    simp at h; subst h
    simp [wt]
    omega
  | a :: l, i + 1, q, h => by
    have := wt_erase (l := l) (i := i) (q := q) (by simpa using h)
    simp only [wt, List.eraseIdx_cons_succ, List.map_cons, List.sum_cons] at this ⊢
    omega
theorem seq_ix {n : Nat} {r : Int} (h0 : 0 ≤ r) (h1 : r < n) : seqIndex? r n = some r.toNat := by
  unfold seqIndex?
  simp only []
  split <;> rename_i h <;> simp at h ⊢ <;> omega
end
end K90
set_option Elab.async false
set_option linter.all false
set_option maxRecDepth 100000
set_option maxHeartbeats 400000
namespace K90
open PySem PySem.Spec PyProof.Rows L2 PL PLX TL
section
variable {P : Sv → Option M → Prop} {PX : Exn → Option M → Prop} {m : M} {n : Int}
abbrev gS (m : M) (many : Int) (o2 o3 o4 o5 o6 o7 o8 : Option Sv) : PEnv := [vb m, vi many, o2, o3, o4, o5, o6, o7, o8]
theorem erase_map {α β : Type} {f : α → β} : ∀ {l : List α} {i : Nat}, (l.map f).eraseIdx i = (l.eraseIdx i).map f
  | [], _ => rfl
  | _ :: _, 0 => rfl
  | a :: l, i + 1 => by
    show f a :: (l.map f).eraseIdx i = f a :: (l.eraseIdx i).map f
    rw [erase_map]
/-- a part is taken out -/
theorem pop_turn {xc : XC} {m : M} {many : Int} {o3 o4 o5 o6 o7 o8 : Option Sv} {l : List (F × Nat)} {P : Sv → PEnv → Prop} (hm : DSt m) (hl : 0 < l.length) (hb : l.length ≤ 100)
    (h : ∀ q l' m', DSt m' → q ∈ l → l'.length + 1 = l.length → (∀ x ∈ l', x ∈ l) → wt l' + (q.1.w.length + 1) = wt l → P (.val (prD q)) (gS m' many (vl (l'.map prD)) o3 o4 o5 o6 o7 o8)) :
    pPopAt 2 (pCallR sp__law_draw xc 0 (pCons (pBlt .len (pLast (pPk 2))) pNil)) (gS m many (vl (l.map prD)) o3 o4 o5 o6 o7 o8) P := by
  refine ⟨⟨_, rfl, rfl⟩, ⟨_, _, rfl, rfl⟩, _, _, rfl, rfl, ?_⟩
  have ll : (l.map prD).length = l.length := List.length_map ..
  refine w_draw hm (by rw [ll]; omega) (by rw [ll]; omega) fun r m hm r0 r1 => ⟨trivial, _, rfl, ?_⟩
  rw [ll] at r1
  have hr : r.toNat < l.length := by omega
  refine ⟨_, _, r, r.toNat, prD l[r.toNat], rfl, rfl, rfl, by omega, seq_ix r0 (by rw [ll]; exact r1), by simp [hr], ?_⟩
  have := h l[r.toNat] (l.eraseIdx r.toNat) m hm (List.getElem_mem hr) (by rw [List.length_eraseIdx]; split <;> omega) (fun x hx => List.mem_of_mem_eraseIdx hx) (wt_erase (by simp [hr]))
  refine norm _ ?_ this
  have em : (l.map prD).eraseIdx r.toNat = (l.eraseIdx r.toNat).map prD := by
    exact erase_map
  show [vb m, vi many, vl ((l.map prD).eraseIdx r.toNat), o3, o4, o5, o6, o7, o8] = _
  rw [em]
theorem seq_asg {p : pE} {g : pG} {b : pS} {Q : pEnds} {e : PEnv} (h : p e fun sv e1 => g sv e1 (b Q)) : sSeq (sAsg p g) b Q e := h
theorem w_formula (hm : DSt m) (h : ∀ (f : F) m', DSt m' → f.sm → f.dep ≤ 16 → f.w.length ≤ 100 → P (.val f.d) (some m')) : sp__law_formula (some m) [] P PX := by
  unfold sp__law_formula
  refine ⟨⟨rfl, rfl⟩, ?_⟩
  refine ⟨⟨_, _, rfl, rfl⟩, _, _, rfl, rfl, w_draw hm (by decide) (by decide) fun r m hm r0 r1 => ⟨trivial, _, rfl, nb rfl, ?_⟩⟩
  refine norm (gS m (1 + r) v0 v0 v0 v0 v0 v0 v0) rfl ?_
  have tail : ∀ (many : Int) m, DSt m → 1 ≤ many → many ≤ 12 →
      (sSeq (sAsg (pLc (iRange1 (pVar 1)) (gP 3) pYes (pTup (pCons (pCallR sp__law_atom xno 0 pNil) (pCons (pC (.int 1)) pNil))) [3]) (gP 2))
      (sSeq (pFor (iRange1 (pOp (opB .Sub) (pVar 1) (pF (pC (.int 1))))) (gP 3)
        (sSeq (sAsg (pPopAt 2 (pCallR sp__law_draw (fun x e => finR true e (PX x)) 0 (pCons (pBlt .len (pLast (pPk 2))) pNil))) (gP 4))
        (sSeq (sAsg (pPopAt 2 (pCallR sp__law_draw (fun x e => finR true e (PX x)) 0 (pCons (pBlt .len (pLast (pPk 2))) pNil))) (gP 5))
        (sDrop (pAppend 2 (pTup (pCons (pTup (pCons (pCallR sp__law_pick (fun x e => finR true e (PX x)) 0 (pCons (pLst (pCons (pC (.str "and")) (pCons (pC (.str "or")) pNil))) pNil)) (pCons (pIxN 4 (pF (pC (.int 0)))) (pCons (pIxN 5 (pF (pC (.int 0)))) pNil)))) (pCons (pOp (opB .Add) (pC (.int 1)) (pF (pBlt .max_ (pCons (pIxN 4 (pF (pC (.int 1)))) (pLast (pF (pIxN 5 (pF (pC (.int 1)))))))))) pNil))))))))
      (sSeq (sAsg (pIxN 2 (pF (pC (.int 0)))) (gTL 2 (gsCons (gP 6) (gsCons (gP 7) gsNil))))
      (sSeq (sAsg (pCallR sp__law_pick (fun x e => finR true e (PX x)) 0 (pCons (pLst (pCons (pC (.int 0)) (pCons (pC (.int 0)) (pCons (pOp (opB .Add) (pVar 7) (pF (pC (.int 1)))) (pCons (pOp (opB .Add) (pVar 7) (pF (pC (.int 2)))) (pCons (pC (.int 8)) (pCons (pC (.int 8)) (pCons (pC (.int 9)) (pCons (pC (.int 9)) pNil))))))))) pNil)) (gP 8))
      (sSeq (pFor (iRange1 (pOp (opB .Sub) (pVar 8) (pPk 7))) (gP 3)
        (sAsg (pTup (pCons (pC (.str "not")) (pCons (pVar 6) pNil))) (gP 6)))
      (sRet (pMove 6)))))))
        { nx := fun e => finR true e (P (.val .non)), rt := fun sv e => isOut sv ∧ finR true e (P sv), bk := fun _ => False, ct := fun _ => False } (gS m many v0 v0 v0 v0 v0 v0 v0) := fun many m hm h1 h12 => by
    refine ⟨_, rfl, by omega, ?_⟩
    refine lcL_ix (fun i acc e => ∃ (l : List (F × Nat)) (m : M) (o : Option Sv), DSt m ∧ nbo o ∧ acc = l.map prD ∧ l.length = i ∧ (∀ q ∈ l, PrOk q ∧ q.2 = 1) ∧ wt l ≤ 5 * i ∧ e = gS m many v0 o v0 v0 v0 v0 v0) ⟨[], m, v0, hm, rfl, rfl, rfl, by simp, by simp [wt], rfl⟩ (fun i d acc e N hi hI hN => ?_) (fun acc e hI => ?_)
    · obtain ⟨l, m, o, hm, ho, rfl, hli, hq, hw, rfl⟩ := hI
      obtain ⟨rfl, hlt⟩ := range_int hi
      refine ⟨nb rfl, ?_⟩
      refine ⟨⟨_, _, rfl, rfl⟩, _, _, rfl, rfl, w_atom hm fun f m hm fs fd fw => ⟨trivial, _, rfl, ?_⟩⟩
      refine ⟨sl (n := 2) (by decide), ?_, hN _ _ ⟨l ++ [(f, 1)], m, vi (0 + i), hm, rfl, by simp [prD], by simp [hli], ?_, ?_, rfl⟩⟩
      · rw [List.length_map]; exact Nat.lt_of_lt_of_le (by omega : l.length < 1000) (sl (n := 1000) (by decide))
      · intro q hq'
        rcases List.mem_append.mp hq' with z | z
        · exact hq q z
        · have : q = (f, 1) := by simpa using z
          subst this
          exact ⟨⟨fs, fd⟩, rfl⟩
      · simp only [wt, List.map_append, List.sum_append, List.map_cons, List.map_nil, List.sum_cons, List.sum_nil] at hw ⊢
        omega
    obtain ⟨l, m, o, hm, ho, rfl, hli, hq, hw, rfl⟩ := hI
    rw [range_len] at hli hw
    refine ⟨nb rfl, ?_⟩
    refine norm (gS m many (vl (l.map prD)) v0 v0 v0 v0 v0 v0) rfl ?_
    refine ⟨_, rfl, by omega, ?_⟩
    refine forL_ix (fun i e => ∃ (l : List (F × Nat)) (m : M) (o3 o4 o5 : Option Sv), DSt m ∧ nbo o3 ∧ nbo o4 ∧ nbo o5 ∧ (l.length : Int) + i = many ∧ (∀ q ∈ l, PrOk q) ∧ (∀ q ∈ l, (q.2 : Int) + l.length ≤ many + 1) ∧ (wt l : Int) ≤ 5 * many ∧ e = gS m many (vl (l.map prD)) o3 o4 o5 v0 v0 v0)
      ⟨l, m, v0, v0, v0, hm, rfl, rfl, rfl, by omega, fun q z => (hq q z).1, fun q z => by have := (hq q z).2; omega, by omega, rfl⟩ (fun i d e N hi hI hN => ?_) (fun e hI => ?_)
    · obtain ⟨l, m, o3, o4, o5, hm, h3, h4, h5, hli, hq, hx, hw, rfl⟩ := hI
      obtain ⟨rfl, hlt⟩ := range_int hi
      refine ⟨nb h3, ?_⟩
      refine norm (gS m many (vl (l.map prD)) (vi (0 + i)) o4 o5 v0 v0 v0) rfl ?_
      refine seq_asg ?_
      refine pop_turn (l := l) hm (by omega) (by omega) fun q1 l1 m hm m1 n1 s1 w1 => ?_
      refine ⟨nb h4, ?_⟩
      refine norm (gS m many (vl (l1.map prD)) (vi (0 + i)) (vd (prD q1)) o5 v0 v0 v0) rfl ?_
      refine seq_asg ?_
      refine pop_turn (l := l1) hm (by omega) (by omega) fun q2 l2 m hm m2 n2 s2 w2 => ?_
      refine ⟨nb h5, ?_⟩
      refine norm (gS m many (vl (l2.map prD)) (vi (0 + i)) (vd (prD q1)) (vd (prD q2)) v0 v0 v0) rfl ?_
      refine ⟨⟨_, rfl, rfl⟩, ⟨_, _, rfl, rfl⟩, sl (n := 2) (by decide), _, _, rfl, rfl, w_pick hm (by simp) (by simp) fun w m hm hw' => ⟨trivial, _, rfl, ?_⟩⟩
      obtain ⟨b, rfl⟩ : ∃ b, w = .str (tw b) := by
        simp at hw'
        rcases hw' with rfl | rfl
        · exact ⟨true, rfl⟩
        · exact ⟨false, rfl⟩
      refine ⟨⟨_, rfl⟩, _, rfl, ⟨_, rfl⟩, _, rfl, sl (n := 3) (by decide), ?_⟩
      refine ⟨⟨_, rfl⟩, _, rfl, ⟨_, rfl⟩, _, rfl, sl (n := 2) (by decide), ?_⟩
      refine ⟨_, _, rfl, rfl, ?_, ?_⟩
      · rw [List.length_map]; exact Nat.lt_of_lt_of_le (by omega : l2.length < 1000) (sl (n := 1000) (by decide))
      have emx : (1 : Int) + (if ((q2.2 : Nat) : Int) > ((q1.2 : Nat) : Int) then ((q2.2 : Nat) : Int) else ((q1.2 : Nat) : Int)) = ((max q1.2 q2.2 + 1 : Nat) : Int) := by split <;> omega
      have p1 := hq q1 m1
      have p2 := hq q2 (s1 _ m2)
      have x1 := hx q1 m1
      have x2 := hx q2 (s1 _ m2)
      refine hN _ ⟨l2 ++ [(.two b q1.1 q2.1, max q1.2 q2.2 + 1)], m, vi (0 + i), vd (prD q1), vd (prD q2), hm, rfl, rfl, rfl, by simp; omega, ?_, ?_, ?_, ?_⟩
      · intro q hq'
        rcases List.mem_append.mp hq' with z | z
        · exact hq q (s1 _ (s2 _ z))
        · have : q = (F.two b q1.1 q2.1, max q1.2 q2.2 + 1) := by simpa using z
          subst this
          exact ⟨⟨p1.1, p2.1⟩, by show max q1.1.dep q2.1.dep + 1 = _; rw [p1.2, p2.2]⟩
      · intro q hq'
        simp only [List.length_append, List.length_cons, List.length_nil]
        rcases List.mem_append.mp hq' with z | z
        · have := hx q (s1 _ (s2 _ z))
          omega
        · have : q = (F.two b q1.1 q2.1, max q1.2 q2.2 + 1) := by simpa using z
          subst this
          dsimp only
          omega
      · simp only [wt, List.map_append, List.sum_append, List.map_cons, List.map_nil, List.sum_cons, List.sum_nil, F.w, List.length_cons, List.length_append] at hw w1 w2 ⊢
        omega
      · show [_, _, vl (l2.map prD ++ [.tup [.tup [.str (tw b), q1.1.d, q2.1.d], .int _]]), _, _, _, _, _, _] = _
        rw [List.map_append]
        show [_, _, vl (l2.map prD ++ [.tup [.tup [.str (tw b), q1.1.d, q2.1.d], .int (1 + (if ((q2.2 : Nat) : Int) > ((q1.2 : Nat) : Int) then ((q2.2 : Nat) : Int) else ((q1.2 : Nat) : Int)))]]), _, _, _, _, _, _] = _
        rw [emx]
        rfl
    obtain ⟨l, m, o3, o4, o5, hm, h3, h4, h5, hli, hq, hx, hw, rfl⟩ := hI
    rw [range_len] at hli
    obtain ⟨q, rfl⟩ : ∃ q, l = [q] := by
      match l, (by omega : l.length = 1) with
      | [q], _ => exact ⟨q, rfl⟩
    have pq := hq q (by simp)
    have xq := hx q (by simp)
    have wq : (q.1.w.length : Int) + 1 ≤ 60 := by simp [wt] at hw; omega
    simp at xq
    refine ⟨⟨_, rfl⟩, _, rfl, _, _, rfl, rfl, rfl, nb rfl, nb rfl, rfl, ?_⟩
    refine norm (gS m many (vl [prD q]) o3 o4 o5 (vd q.1.d) (vd (dI q.2)) v0) rfl ?_
    refine ⟨⟨_, _, rfl, rfl⟩, sl (n := 8) (by decide), _, _, rfl, rfl, w_pick hm (by simp) (by simp) fun w m hm hw' => ⟨trivial, _, rfl, nb rfl, ?_⟩⟩
    obtain ⟨z, rfl, hz⟩ : ∃ z : Int, w = .int z ∧ z ≤ 14 ∧ 0 ≤ z := by
      simp at hw'
      rcases hw' with rfl | rfl | rfl | rfl | rfl
      · exact ⟨0, rfl, by decide⟩
      · exact ⟨_, rfl, by omega⟩
      · exact ⟨_, rfl, by omega⟩
      · exact ⟨8, rfl, by decide⟩
      · exact ⟨9, rfl, by decide⟩
    refine norm (gS m many (vl [prD q]) o3 o4 o5 (vd q.1.d) (vd (dI q.2)) (vi z)) rfl ?_
    refine ⟨_, rfl, by omega, ?_⟩
    refine forL_ix (fun i e => ∃ (f : F) (o3 : Option Sv), nbo o3 ∧ f.sm ∧ f.dep = q.2 + i ∧ f.w.length = q.1.w.length + i ∧ e = gS m many (vl [prD q]) o3 o4 o5 (vd f.d) (vd (dI q.2)) (vi z)) ⟨q.1, o3, h3, pq.1, pq.2, rfl, rfl⟩ (fun i d e N hi hI hN => ?_) (fun e hI => ?_)
    · obtain ⟨f, o3, h3, fs, fd, fw, rfl⟩ := hI
      obtain ⟨rfl, hlt⟩ := range_int hi
      refine ⟨nb h3, sl (n := 2) (by decide), nb rfl, ?_⟩
      refine hN _ ⟨.nt f, vi (0 + i), rfl, fs, by show f.dep + 1 = _; omega, by show f.w.length + 1 = _; omega, rfl⟩
    · obtain ⟨f, o3, h3, fs, fd, fw, rfl⟩ := hI
      rw [range_len] at fd fw
      exact ⟨trivial, h f m hm fs (by omega) (by omega)⟩
  refine ⟨⟨_, _, rfl, rfl⟩, _, _, rfl, rfl, w_draw hm (by decide) (by decide) fun r2 m hm r20 r21 => ⟨trivial, _, rfl, ?_⟩⟩
  refine ⟨_, rfl, ?_⟩
  refine ifd (fun h1 => ?_) (fun h1 => ?_)
  · exact ⟨nb rfl, tail (1 + r + 6) m hm (by omega) (by omega)⟩
  · exact tail (1 + r) m hm (by omega) (by omega)
end
end K90
set_option Elab.async false
set_option linter.all false
set_option maxRecDepth 100000
set_option maxHeartbeats 400000
namespace K90
open PySem PySem.Spec PyProof.Rows L2 PL PLX TL
section
variable {P : Sv → Option M → Prop} {PX : Exn → Option M → Prop} {m : M} {n : Int}
theorem cut_take {ds : List D} {p : Nat} : PL.cutD ds none (some (p : Int)) = ds.take p := by
  unfold PL.cutD
  rw [HT.sIx_none, HT.sIx_nat, List.drop_zero, Nat.sub_zero]
  by_cases h : p ≤ ds.length
  · rw [Nat.min_eq_left h]
  · rw [Nat.min_eq_right (by omega), List.take_length, List.take_of_length_le (by omega)]
theorem cut_drop {ds : List D} {p : Nat} : PL.cutD ds (some (p : Int)) none = ds.drop p := by
  unfold PL.cutD
  rw [HT.sIx_none, HT.sIx_nat]
  by_cases h : p ≤ ds.length
  · rw [Nat.min_eq_left h, List.take_of_length_le (by rw [List.length_drop]; exact Nat.le_refl _)]
  · rw [Nat.min_eq_right (by omega), Nat.sub_self, List.take_zero, List.drop_eq_nil_of_le (by omega)]
theorem cut_len {ds : List D} {lo hi : Option Int} : (PL.cutD ds lo hi).length ≤ ds.length := by
  unfold PL.cutD
  rw [List.length_take, List.length_drop]
  omega
/-- words of the law: they stand between blanks, are short and few -/
def WOk (k : Nat) (ws : List Str) : Prop := Wd ws ∧ (∀ w ∈ ws, w.length ≤ 61) ∧ ws.length ≤ k
def oth1 : List Str := ["most", "rest", "not", "and", "or", "mos", "Most", "NOT", "x", "", "00", "07", "-1", "-0", "+1", "1_0"]
def oth2 : List Str := ["5", "0", "1.", "0x1", Txt.mul "1" 60, Txt.mul "1" 61, ("0" : Str) ++ Txt.mul "1" 59, Txt.mul "9" 60]
def oth : List Str := oth1 ++ oth2
theorem oth_ok : ∀ w ∈ oth, 32 ∉ tl w ∧ w.length ≤ 61 := by decide +kernel
theorem mulok1 : MulOk "1" 60 := ⟨by decide, fun _ _ => by decide +kernel, fun _ _ => by decide +kernel⟩
theorem mulok2 : MulOk "1" 61 := ⟨by decide, fun _ _ => by decide +kernel, fun _ _ => by decide +kernel⟩
theorem mulok3 : MulOk "1" 59 := ⟨by decide, fun _ _ => by decide +kernel, fun _ _ => by decide +kernel⟩
theorem mulok4 : MulOk "9" 60 := ⟨by decide, fun _ _ => by decide +kernel, fun _ _ => by decide +kernel⟩
theorem lenok : (("0" : Str)).length + (Txt.mul "1" 59).length ≤ sizeLine := big (by decide +kernel)
/-- one more word or the like: all stay good -/
theorem wok_of {k : Nat} {ws vs : List Str} (h : WOk k ws) (hne : vs ≠ []) (hm : ∀ w ∈ vs, w ∈ ws ∨ w ∈ oth) (hl : vs.length ≤ ws.length + 1) : WOk (k + 1) vs := by
  obtain ⟨⟨h1, h2⟩, h3, h4⟩ := h
  refine ⟨⟨hne, fun w hw => ?_⟩, fun w hw => ?_, by omega⟩
  · rcases hm w hw with z | z
    · exact h2 w z
    · exact (oth_ok w z).1
  · rcases hm w hw with z | z
    · exact h3 w z
    · exact (oth_ok w z).2
theorem w_once {k : Nat} {ws : List Str} (hm : DSt m) (hk : k ≤ 1000) (hw : WOk k ws) (h : ∀ vs m', DSt m' → WOk (k + 1) vs → P (.own (.lst (sD vs))) (some m')) : sp__law_spoilt_once (some m) [.lst (sD ws)] P PX := by
  have hp : 0 < ws.length := List.length_pos_iff.mpr hw.1.1
  have hlk : ws.length ≤ k := hw.2.2
  have lsd : ∀ l : List Str, (sD l).length = l.length := fun l => List.length_map ..
  have szk : ∀ n : Nat, n ≤ 3000 → n ≤ sizeLine := fun n h => Nat.le_trans h (by decide)
  unfold sp__law_spoilt_once
  refine ⟨⟨rfl, rfl⟩, ?_⟩
  refine ⟨⟨_, _, rfl, rfl⟩, _, _, rfl, rfl, w_draw hm (by decide) (by decide) fun way m hm g0 g1 => ⟨trivial, _, rfl, nb rfl, ?_⟩⟩
  refine norm [vb m, vd (.lst (sD ws)), vi way, v0, v0, v0, v0] rfl ?_
  refine ⟨⟨_, _, rfl, rfl⟩, _, _, rfl, rfl, w_draw hm (by rw [lsd]; omega) (by rw [lsd]; omega) fun pl m hm p0 p1 => ⟨trivial, _, rfl, nb rfl, ?_⟩⟩
  rw [lsd] at p1
  obtain ⟨p, rfl⟩ : ∃ p : Nat, pl = (p : Int) := ⟨pl.toNat, by omega⟩
  have hp1 : p < ws.length := by omega
  have pp1 : (p : Int) + 1 = ((p + 1 : Nat) : Int) := by omega
  refine norm [vb m, vd (.lst (sD ws)), vi way, vi (p : Int), v0, v0, v0] rfl ?_
  refine ⟨sl (n := 16) (by decide), nb rfl, ?_⟩
  refine norm [vb m, vd (.lst (sD ws)), vi way, vi (p : Int), vl (sD oth1), v0, v0] rfl ?_
  refine ⟨mulok1, mulok2, mulok3, lenok, mulok4, sl (n := 8) (by decide), sl (n := 24) (by decide), nb rfl, ?_⟩
  refine norm [vb m, vd (.lst (sD ws)), vi way, vi (p : Int), vl (sD oth), v0, v0] rfl ?_
  have mt : ∀ {j : Nat} {w : Str}, w ∈ ws.take j → w ∈ ws := fun h => List.mem_of_mem_take h
  have md : ∀ {j : Nat} {w : Str}, w ∈ ws.drop j → w ∈ ws := fun h => List.mem_of_mem_drop h
  have td : ∀ {j : Nat}, (sD ws).take j = sD (ws.take j) := fun {j} => List.map_take.symm
  have dd : ∀ {j : Nat}, (sD ws).drop j = sD (ws.drop j) := fun {j} => List.map_drop.symm
  have ap : ∀ {a b : List Str}, sD a ++ sD b = sD (a ++ b) := fun {a b} => List.map_append.symm
  have lws : (sD ws).length ≤ 1000 := by rw [lsd]; omega
  refine ⟨_, rfl, ?_⟩
  refine ifd (fun h1 => ifd (fun h2 => ?_) fun _ => ?_) fun _ => ?_
  · have h2 : (1 : Int) < ((sD ws).length : Nat) := h2
    rw [lsd] at h2
    refine ⟨⟨_, rfl⟩, ⟨_, rfl⟩, szk _ (Nat.le_trans (Nat.add_le_add (Nat.le_trans cut_len lws) (Nat.le_trans cut_len lws)) (by decide)), trivial, ?_⟩
    show P (.own (.lst (PL.cutD (sD ws) none (some (p : Int)) ++ PL.cutD (sD ws) (some ((p : Int) + 1)) none))) (some m)
    rw [pp1, cut_take, cut_drop, td, dd, ap]
    refine h _ m hm (wok_of hw ?_ ?_ ?_)
    · intro e
      have := congrArg List.length e
      rw [List.length_append, List.length_take, List.length_drop, List.length_nil] at this
      omega
    · intro w z
      rcases List.mem_append.mp z with z | z
      · exact .inl (mt z)
      · exact .inl (md z)
    · rw [List.length_append, List.length_take, List.length_drop]
      omega
  all_goals (
    refine ⟨_, rfl, ?_⟩
    refine ifd (fun h1 => ?_) (fun _ => ?_)
    · refine ⟨⟨_, rfl⟩, ⟨_, rfl⟩, szk _ (Nat.le_trans (Nat.add_le_add (Nat.le_trans cut_len lws) (Nat.le_trans cut_len lws)) (by decide)), trivial, ?_⟩
      show P (.own (.lst (PL.cutD (sD ws) none (some ((p : Int) + 1)) ++ PL.cutD (sD ws) (some (p : Int)) none))) (some m)
      rw [pp1, cut_take, cut_drop, td, dd, ap]
      refine h _ m hm (wok_of hw ?_ ?_ ?_)
      · intro e
        have := congrArg List.length e
        rw [List.length_append, List.length_take, List.length_drop, List.length_nil] at this
        omega
      · intro w z
        rcases List.mem_append.mp z with z | z
        · exact .inl (mt z)
        · exact .inl (md z)
      · rw [List.length_append, List.length_take, List.length_drop]
        omega
    refine ⟨_, rfl, ?_⟩
    refine ifd (fun h1 => ?_) (fun _ => ?_)
    · refine ⟨⟨_, rfl⟩, ⟨_, _, rfl, rfl⟩, _, _, rfl, rfl, w_pick hm (by decide) (by decide) fun d m hm hd => ⟨trivial, _, rfl, ?_⟩⟩
      obtain ⟨w, hwo, rfl⟩ := List.mem_map.mp hd
      refine ⟨sl (n := 1) (by decide), szk _ (Nat.le_trans (Nat.add_le_add_right (Nat.le_trans cut_len lws) 1) (by decide)), ⟨_, rfl⟩, ?_, trivial, ?_⟩
      · rw [List.length_append]
        exact szk _ (Nat.le_trans (Nat.add_le_add (Nat.add_le_add_right (Nat.le_trans cut_len lws) 1) (Nat.le_trans cut_len lws)) (by decide))
      show P (.own (.lst (PL.cutD (sD ws) none (some (p : Int)) ++ [.str w] ++ PL.cutD (sD ws) (some (p : Int)) none))) (some m)
      rw [cut_take, cut_drop, td, dd, show [D.str w] = sD [w] from rfl, ap, ap]
      refine h _ m hm (wok_of hw ?_ ?_ ?_)
      · simp
      · intro x z
        rcases List.mem_append.mp z with z | z
        · rcases List.mem_append.mp z with z | z
          · exact .inl (mt z)
          · rw [List.mem_singleton.mp z]; exact .inr hwo
        · exact .inl (md z)
      · rw [List.length_append, List.length_append, List.length_take, List.length_drop, List.length_singleton]
        omega
    refine ⟨_, rfl, ?_⟩
    refine ifd (fun h1 => ?_) (fun _ => ?_)
    · refine ⟨⟨_, _, rfl, rfl⟩, _, _, rfl, rfl, w_pick hm (by decide) (by decide) fun d m hm hd => ⟨trivial, _, rfl, ?_⟩⟩
      obtain ⟨w, hwo, rfl⟩ := List.mem_map.mp hd
      refine ⟨sl (n := 1) (by decide), szk _ (Nat.le_trans (Nat.add_le_add_right lws 1) (by decide)), trivial, ?_⟩
      show P (.own (.lst (sD ws ++ sD [w]))) (some m)
      rw [ap]
      refine h _ m hm (wok_of hw ?_ ?_ ?_)
      · simp
      · intro x z
        rcases List.mem_append.mp z with z | z
        · exact .inl z
        · rw [List.mem_singleton.mp z]; exact .inr hwo
      · rw [List.length_append, List.length_singleton]
        omega
    refine ⟨_, rfl, ?_⟩
    refine ifd (fun h1 => ?_) (fun _ => ?_)
    · refine ⟨_, rfl, nb rfl, ?_⟩
      refine norm [vb m, vd (.lst (sD ws)), vi way, vi (p : Int), vl (sD oth), vl (sD ws), v0] rfl ?_
      refine ⟨⟨_, _, rfl, rfl⟩, _, _, rfl, rfl, w_draw hm (by rw [lsd]; omega) (by rw [lsd]; omega) fun pl m hm q0 q1 => ⟨trivial, _, rfl, nb rfl, ?_⟩⟩
      rw [lsd] at q1
      obtain ⟨q, rfl⟩ : ∃ q : Nat, pl = (q : Int) := ⟨pl.toNat, by omega⟩
      have hq1 : q < ws.length := by omega
      refine norm [vb m, vd (.lst (sD ws)), vi way, vi (p : Int), vl (sD oth), vl (sD ws), vi (q : Int)] rfl ?_
      have ixn : ∀ {j : Nat} {l : List Str}, l.length = ws.length → j < ws.length → ixN (sD l).length (j : Int) = some j := fun {j l} e hj => by
        rw [lsd, e]
        unfold ixN
        rw [if_pos (by omega), if_pos (by omega)]
        rfl
      have setD : ∀ {j : Nat} {w : Str} {l : List Str}, (sD l).set j (.str w) = sD (l.set j w) := fun {j w l} => List.map_set.symm
      refine ⟨⟨_, rfl⟩, _, at_nat (by rw [List.getElem?_map, List.getElem?_eq_getElem hq1]; rfl), _, rfl, ⟨_, rfl, rfl⟩, _, _, _, p, rfl, rfl, rfl, ixn rfl hp1, ?_⟩
      refine norm [vb m, vd (.lst (sD ws)), vi way, vi (p : Int), vl (sD oth), vl (sD (ws.set p ws[q])), vi (q : Int)] (by show [_, _, _, _, _, vl ((sD ws).set p (.str ws[q])), _] = _; rw [setD]) ?_
      refine ⟨⟨_, rfl⟩, _, at_nat (by rw [List.getElem?_map, List.getElem?_eq_getElem hp1]; rfl), _, rfl, ⟨_, rfl, rfl⟩, _, _, _, q, rfl, rfl, rfl, ixn (by simp) hq1, trivial, ?_⟩
      show P (.own (.lst ((sD (ws.set p ws[q])).set q (.str ws[p])))) (some m)
      rw [setD]
      refine h _ m hm (wok_of hw ?_ ?_ ?_)
      · intro e
        have := congrArg List.length e
        rw [List.length_set, List.length_set, List.length_nil] at this
        omega
      · intro w z
        rcases List.mem_or_eq_of_mem_set z with z | z
        · rcases List.mem_or_eq_of_mem_set z with z | z
          · exact .inl z
          · rw [z]; exact .inl (List.getElem_mem _)
        · rw [z]; exact .inl (List.getElem_mem _)
      · simp
    · refine ⟨⟨_, rfl⟩, ⟨_, _, rfl, rfl⟩, _, _, rfl, rfl, w_pick hm (by decide) (by decide) fun d m hm hd => ⟨trivial, _, rfl, ?_⟩⟩
      obtain ⟨w, hwo, rfl⟩ := List.mem_map.mp hd
      refine ⟨sl (n := 1) (by decide), szk _ (Nat.le_trans (Nat.add_le_add_right (Nat.le_trans cut_len lws) 1) (by decide)), ⟨_, rfl⟩, ?_, trivial, ?_⟩
      · rw [List.length_append]
        exact szk _ (Nat.le_trans (Nat.add_le_add (Nat.add_le_add_right (Nat.le_trans cut_len lws) 1) (Nat.le_trans cut_len lws)) (by decide))
      show P (.own (.lst (PL.cutD (sD ws) none (some (p : Int)) ++ [.str w] ++ PL.cutD (sD ws) (some ((p : Int) + 1)) none))) (some m)
      rw [pp1, cut_take, cut_drop, td, dd, show [D.str w] = sD [w] from rfl, ap, ap]
      refine h _ m hm (wok_of hw ?_ ?_ ?_)
      · simp
      · intro x z
        rcases List.mem_append.mp z with z | z
        · rcases List.mem_append.mp z with z | z
          · exact .inl (mt z)
          · rw [List.mem_singleton.mp z]; exact .inr hwo
        · exact .inl (md z)
      · rw [List.length_append, List.length_append, List.length_take, List.length_drop, List.length_singleton]
        omega)
end
end K90
set_option Elab.async false
set_option linter.all false
set_option maxRecDepth 100000
set_option maxHeartbeats 400000
namespace K90
open PySem PySem.Spec PyProof.Rows L2 PL PLX TL
section
variable {P : Sv → Option M → Prop} {PX : Exn → Option M → Prop} {m : M} {n : Int}
theorem wok_mono {j k : Nat} {ws : List Str} (h : WOk j ws) (hj : j ≤ k) : WOk k ws := ⟨h.1, h.2.1, Nat.le_trans h.2.2 hj⟩
theorem w_spoilt {k : Nat} {ws : List Str} (hm : DSt m) (hk : k ≤ 900) (hw : WOk k ws) (h : ∀ vs m', DSt m' → WOk (k + 2) vs → P (.own (.lst (sD vs))) (some m')) : sp__law_spoilt (some m) [.lst (sD ws)] P PX := by
  unfold sp__law_spoilt
  refine ⟨⟨rfl, rfl⟩, ?_⟩
  refine ⟨_, rfl, nb rfl, ?_⟩
  refine norm [vb m, vd (.lst (sD ws)), vl (sD ws), v0] rfl ?_
  refine ⟨⟨_, _, rfl, rfl⟩, sl (n := 5) (by decide), _, _, rfl, rfl, w_pick hm (by simp) (by simp) fun d m hm hd => ⟨trivial, _, rfl, ?_⟩⟩
  obtain ⟨z, rfl, z0, z1⟩ : ∃ z : Int, d = .int z ∧ 0 ≤ z ∧ z ≤ 2 := by
    simp at hd
    rcases hd with rfl | rfl | rfl
    · exact ⟨0, rfl, by decide⟩
    · exact ⟨1, rfl, by decide⟩
    · exact ⟨2, rfl, by decide⟩
  refine ⟨_, rfl, by omega, ?_⟩
  refine forL_ix (fun i e => ∃ (m : M) (vs : List Str) (o : Option Sv), DSt m ∧ nbo o ∧ WOk (k + i) vs ∧ e = [vb m, vd (.lst (sD ws)), vl (sD vs), o]) ⟨m, ws, v0, hm, rfl, hw, rfl⟩ (fun i d e N hi hI hN => ?_) (fun e hI => ?_)
  · obtain ⟨m, vs, o, hm, ho, hv, rfl⟩ := hI
    obtain ⟨rfl, hlt⟩ := range_int hi
    refine ⟨nb ho, ?_⟩
    refine norm [vb m, vd (.lst (sD ws)), vl (sD vs), vi (0 + i)] rfl ?_
    refine ⟨⟨_, _, rfl, rfl⟩, _, _, rfl, rfl, w_once hm (by omega) hv fun vs m hm hv => ⟨trivial, _, rfl, nb rfl, ?_⟩⟩
    exact hN _ ⟨m, vs, vi (0 + i), hm, rfl, hv, rfl⟩
  · obtain ⟨m, vs, o, hm, ho, hv, rfl⟩ := hI
    rw [range_len] at hv
    exact ⟨trivial, h vs m hm (wok_mono hv (by omega))⟩
theorem w_begin {ns : List Int} (hn : ns.length ≤ 63) (h : P (.own (dS ns 0 0 7 3)) none) : sp__law_begin none [.lsq (ns.map D.int)] P PX := by
  unfold sp__law_begin
  refine ⟨⟨rfl, rfl⟩, ?_⟩
  refine lcL_ix (fun i acc e => acc = (ns.take i).map D.int ∧ ∃ o, e = [vd (.lsq (ns.map D.int)), o] ∧ isBor (some o) = false) ⟨rfl, _, rfl, rfl⟩ (fun i d acc e N hi hI hN => ?_) (fun acc e hI => ?_)
  · obtain ⟨rfl, o, rfl, ho⟩ := hI
    rw [List.getElem?_map] at hi
    cases e : ns[i]? with
    | none => rw [e] at hi; cases hi
    | some v =>
      rw [e] at hi
      cases hi
      refine ⟨nb rfl, ?_, hN _ _ ⟨?_, _, rfl, rfl⟩⟩
      · rw [List.length_map]
        have : (ns.take i).length ≤ ns.length := by rw [List.length_take]; omega
        exact Nat.lt_of_lt_of_le (by omega : (ns.take i).length < 1000) (sl (n := 1000) (by decide))
      · rw [List.take_add_one, e, List.map_append]
        rfl
  · obtain ⟨rfl, o, rfl, ho⟩ := hI
    rw [List.length_map, List.take_length]
    exact ⟨sl (n := 5) (by decide), trivial, h⟩
theorem wok_f {f : F} (hs : f.sm) (hl : f.w.length ≤ 100) : WOk 100 f.w := by
  refine ⟨f.wd, fun w hw => ?_, hl⟩
  have key : ∀ f : F, f.sm → ∀ w ∈ f.w, w.length ≤ 61 := by
    intro f
    induction f with
    | most a b =>
      intro h w hw
      simp only [F.w, List.mem_cons, List.not_mem_nil, or_false] at hw
      rcases hw with rfl | rfl | rfl
      · decide +kernel
      · exact Nat.le_trans (nst_len h.1) (by decide)
      · exact Nat.le_trans (nst_len h.2) (by decide)
    | rest a b c =>
      intro h w hw
      simp only [F.w, List.mem_cons, List.not_mem_nil, or_false] at hw
      rcases hw with rfl | rfl | rfl | rfl
      · decide +kernel
      · exact Nat.le_trans (nst_len h.1) (by decide)
      · exact Nat.le_trans (nst_len h.2.1) (by decide)
      · exact Nat.le_trans (nst_len h.2.2) (by decide)
    | nt f ih =>
      intro h w hw
      rcases List.mem_cons.mp hw with rfl | hw
      · decide +kernel
      · exact ih h w hw
    | two k f g ih1 ih2 =>
      intro h w hw
      rcases List.mem_cons.mp hw with rfl | hw
      · cases k <;> decide +kernel
      · rcases List.mem_append.mp hw with hw | hw
        · exact ih1 h.1 w hw
        · exact ih2 h.2 w hw
  exact key f hs w hw
theorem sum_le : ∀ {ws : List Str}, (∀ w ∈ ws, w.length ≤ 61) → (ws.map (·.length)).sum ≤ 61 * ws.length
  | [], _ => Nat.le_refl _
  | w :: ws, h => by
    have h1 := h w (List.mem_cons_self)
    have h2 := sum_le (ws := ws) fun x hx => h x (List.mem_cons_of_mem _ hx)
    simp only [List.map_cons, List.sum_cons, List.length_cons]
    omega
theorem w_right {ws : List Str} (hw : WOk 102 ws) (h : P (.val (.bl true)) none) : sp__law_right none [.lst (sD ws)] P PX := by
  have e := len_jn hw.1
  have s := sum_le hw.2.1
  have l := hw.2.2
  exact w_lright hw.1 (by omega) (by omega) h
theorem tl_mul (n : Int) : tl (Txt.mul " " n) = List.replicate n.toNat 32 := by
  have e := signs_mul_one 32 n
  have e0 : (" " : Str) = ⟨#[32]⟩ := by decide +kernel
  rw [e0]
  have key : ∀ x : Str, (signs x).map tl = (tl x).map fun c => [c] := fun x => by
    unfold signs
    rw [List.map_map]
    rfl
  have k := key (Txt.mul ⟨#[32]⟩ n)
  rw [e, List.map_replicate] at k
  have inj : ∀ (l : List Nat) (j : Nat), List.replicate j [32] = l.map (fun c => [c]) → l = List.replicate j 32 := by
    intro l
    induction l with
    | nil => intro j h; cases j with
      | zero => rfl
      | succ j => cases h
    | cons a l ih => intro j h; cases j with
      | zero => cases h
      | succ j =>
        rw [List.replicate_succ, List.map_cons] at h
        have h1 := (List.cons.inj h).1
        have h2 := ih j (List.cons.inj h).2
        rw [List.replicate_succ, ← h2]
        have : (32 : Nat) = a := by simpa using h1
        rw [this]
  exact inj _ _ k
theorem joinL_rep : ∀ (k : Nat) (p : List Nat), joinL [32] (p :: List.replicate k []) = p ++ List.replicate k 32
  | 0, p => by simp [joinL]
  | k + 1, p => by
    rw [List.replicate_succ]
    show p ++ ([32] ++ joinL [32] ([] :: List.replicate k [])) = _
    rw [joinL_rep k []]
    simp [List.replicate_succ]
def lws (d k : Nat) : List Str := ("most" : Str) :: ("0" : Str) :: nst d :: List.replicate k ("" : Str)
theorem tl_empty : tl ("" : Str) = [] := by decide +kernel
theorem jn_lws (d k : Nat) : jn (lws d k) = ("most 0 " : Str) ++ nst d ++ Txt.mul " " (k : Int) := by
  refine ext_tl ?_
  rw [show jn (lws d k) = Str.join " " (lws d k) from join_eq _ _, tl_join, tl_append, tl_append, tl_mul, Int.toNat_natCast]
  have e : tl (" " : Str) = [32] := by decide +kernel
  rw [e]
  have e2 : (lws d k).map tl = tl ("most" : Str) :: tl ("0" : Str) :: tl (nst d) :: List.replicate k [] := by
    unfold lws
    rw [List.map_cons, List.map_cons, List.map_cons, List.map_replicate, tl_empty]
  rw [e2]
  show tl ("most" : Str) ++ ([32] ++ (tl ("0" : Str) ++ ([32] ++ joinL [32] (tl (nst d) :: List.replicate k [])))) = _
  rw [joinL_rep]
  have e3 : tl ("most 0 " : Str) = tl ("most" : Str) ++ ([32] ++ (tl ("0" : Str) ++ [32])) := by decide +kernel
  rw [e3]
  simp only [List.append_assoc]
theorem wd_lws (d k : Nat) : Wd (lws d k) := by
  refine ⟨by simp [lws], fun w hw => ?_⟩
  unfold lws at hw
  simp only [List.mem_cons] at hw
  rcases hw with rfl | rfl | rfl | hw
  · decide +kernel
  · decide +kernel
  · exact nst_free (by decide)
  · rw [(List.mem_replicate.mp hw).2, tl_empty]
    exact List.not_mem_nil
theorem lap (a b : Str) : (a ++ b).length = a.length + b.length := by rw [len_tl, tl_append, List.length_append, ← len_tl, ← len_tl]
theorem fig_small {d : Nat} (h : d < 12) : isFig (nst d) = true ∧ (nst d).length ≤ 2 ∧ 1 ≤ (nst d).length := by
  have : d = 0 ∨ d = 1 ∨ d = 2 ∨ d = 3 ∨ d = 4 ∨ d = 5 ∨ d = 6 ∨ d = 7 ∨ d = 8 ∨ d = 9 ∨ d = 10 ∨ d = 11 := by omega
  rcases this with rfl | rfl | rfl | rfl | rfl | rfl | rfl | rfl | rfl | rfl | rfl | rfl <;> decide +kernel
theorem num1_cons {w : Str} {ws : List Str} (f : isFig w = true) : num1 (w :: ws) = .ok (val w, ws) := by
  show (if isFig w = true then .ok (val w, ws) else .error "number" : Except Str (Nat × List Str)) = _
  rw [if_pos f]
theorem pf_lws {d k : Nat} (h : d < 12) (hk : 0 < k) : lrD (pf 8 (lws d k)) = .tup [.str "bad", .int 1, .str "length"] := by
  obtain ⟨j, rfl⟩ : ∃ j, k = j + 1 := ⟨k - 1, by omega⟩
  have e : pf 8 (lws d (j + 1)) = .ok (.most (val "0") (val (nst d)), ("" : Str) :: List.replicate j ("" : Str)) := by
    show pf (7 + 1) (("most" : Str) :: (("0" : Str) :: nst d :: List.replicate (j + 1) ("" : Str))) = _
    rw [pf_most]
    have f0 : isFig "0" = true := by decide +kernel
    have n1 : num1 (("0" : Str) :: nst d :: List.replicate (j + 1) ("" : Str)) = .ok (val "0", nst d :: List.replicate (j + 1) ("" : Str)) := num1_cons f0
    have n2 : num1 (nst d :: List.replicate (j + 1) ("" : Str)) = .ok (val (nst d), List.replicate (j + 1) ("" : Str)) := num1_cons (fig_small h).1
    rw [n1]
    dsimp only
    rw [n2]
    rfl
  rw [e]
  rfl
theorem mulok_blank {n : Int} (h0 : 1 ≤ n) (h1 : n ≤ 20000) : MulOk " " n := by
  have e1 : ((" " : Str)).length = 1 := by decide +kernel
  refine ⟨?_, fun _ _ => ?_, fun _ _ => ?_⟩
  · rw [decide_eq_false (by omega), decide_eq_false (by omega)]
    rfl
  · rw [e1]
    have : 1 * n ≤ 2 ^ 63 - 1 := by omega
    have := (Int.le_ediv_iff_mul_le (show 0 < n by omega)).mpr this
    omega
  · rw [e1]
    unfold Builtin.Str.tooLong
    rw [decide_eq_false]
    have := big (show 1 * n.toNat ≤ 200000 by omega)
    omega
theorem eq_badT : eqD badT badT = some true := by decide +kernel
theorem w_long (hm : DSt m) (h : ∀ m', DSt m' → P (.val (.bl true)) (some m')) : sp__law_long_right (some m) [] P PX := by
  unfold sp__law_long_right
  refine ⟨⟨rfl, rfl⟩, ?_⟩
  have e7 : (("most 0 " : Str)).length = 7 := by decide +kernel
  refine ⟨⟨_, _, rfl, rfl⟩, _, _, rfl, rfl, w_draw hm (by decide) (by decide) fun r m hm r0 r1 => ⟨trivial, _, rfl, ?_⟩⟩
  obtain ⟨d, rfl⟩ : ∃ d : Nat, r = (d : Int) := ⟨r.toNat, by omega⟩
  have hd : d < 12 := by omega
  obtain ⟨f1, f2, f3⟩ := fig_small hd
  refine ⟨log_sm (by omega), by show 7 + (nst d).length ≤ _; exact big (by omega), nb rfl, ?_⟩
  have el : (("most 0 " : Str) ++ nst d).length = 7 + (nst d).length := by rw [lap, e7]
  have sz := big (show 7 + (nst d).length ≤ 200000 by omega)
  refine norm [vb m, vd (.str (("most 0 " : Str) ++ nst d))] rfl ?_
  generalize hk : 20000 - (7 + (nst d).length) = k
  have ek : (20000 : Int) - ((("most 0 " : Str) ++ nst d).length : Nat) = (k : Int) := by rw [el]; omega
  have em : (Txt.mul " " (k : Int)).length = k := by rw [len_tl, tl_mul, List.length_replicate, Int.toNat_natCast]
  refine ⟨by rw [el]; exact sz, by rw [ek]; exact mulok_blank (by omega) (by omega), by rw [ek, el, em]; exact big (by omega), nb rfl, ?_⟩
  have ej := jn_lws d k
  refine norm [vb m, vd (.str (jn (lws d k)))] (by rw [ek, ej]; rfl) ?_
  have len : (jn (lws d k)).length = 20000 := by rw [ej, lap, el, em]; omega
  refine w_lread (wd_lws d k) (by omega) ⟨trivial, ?_⟩
  rw [pf_lws hd (by omega)]
  refine ⟨sl (n := 3) (by decide), true, (eq_bad (i := 0) (by decide)).1, ?_⟩
  have e1 : ((" " : Str)).length = 1 := by decide +kernel
  have len2 : (jn (lws d k) ++ (" " : Str)).length = 20001 := by rw [lap, len, e1]
  refine ⟨by rw [len, e1]; exact big (by decide), ?_⟩
  refine w_lread_long (by rw [len2]; decide) (by rw [len2]; exact big (by decide)) ⟨trivial, ?_⟩
  exact ⟨sl (n := 3) (by decide), true, eq_badT, trivial, h m hm⟩
theorem pure_law (ns : List Int) (hn : ns.length ≤ 63) : semFn 5 1 false b_law none [.lsq (ns.map D.int)] (fun z _ => z = .val (.bl true)) (fun _ _ => False) := by
  refine ⟨⟨rfl, rfl⟩, ?_⟩
  refine w_begin hn ⟨trivial, nb rfl, ?_⟩
  generalize hS : D.lsq (ns.map D.int) = sc
  refine norm [vd sc, some (.own (dS ns 0 0 7 3)), v0, v0, v0, v0] rfl ?_
  refine ⟨⟨_, _, rfl, rfl⟩, _, _, rfl, rfl, w_formula ⟨ns, 0, 0, 7, 3, rfl, Int.le_refl 0⟩ fun f m hm fs fd fl => ⟨trivial, _, rfl, nb rfl, ?_⟩⟩
  refine norm [vd sc, some (.own m), vd f.d, v0, v0, v0] rfl ?_
  refine w_lwords fs (by omega) ⟨trivial, nb rfl, ?_⟩
  refine norm [vd sc, some (.own m), vd f.d, vl (sD f.w), v0, v0] rfl ?_
  have wk := wok_f fs fl
  refine w_told fd fs (by omega) ⟨trivial, ?_⟩
  have e1 : ((" " : Str)).length = 1 := by decide +kernel
  have fsum := f.wlen fs
  refine ⟨_, rfl, f.w, .inl rfl, by rw [e1]; omega, _, rfl, ?_⟩
  refine ifF (by rw [decide_eq_true rfl]; rfl) ?_
  refine w_right (wok_mono wk (by decide)) ⟨trivial, ?_⟩
  refine ifF rfl ?_
  refine norm [vd sc, some (.own m), vd f.d, vd (.lst (sD f.w)), v0, v0] rfl ?_
  refine ⟨_, rfl, ⟨by decide, by decide⟩, ?_⟩
  refine forL_ix (fun i e => ∃ (m : M) (o : Option Sv), DSt m ∧ nbo o ∧ e = [vd sc, some (.own m), vd f.d, vd (.lst (sD f.w)), o, v0]) ⟨m, v0, hm, rfl, rfl⟩ (fun i d e N hi hI hN => ?_) (fun e hI => ?_)
  · obtain ⟨m, o, hm, ho, rfl⟩ := hI
    refine ⟨nb ho, ?_⟩
    refine norm [vd sc, some (.own m), vd f.d, vd (.lst (sD f.w)), vd d, v0] rfl ?_
    refine ⟨⟨_, _, rfl, rfl⟩, _, _, rfl, rfl, w_spoilt hm (by decide) wk fun vs m hm hv => ⟨trivial, _, rfl, ?_⟩⟩
    refine w_right hv ⟨trivial, ?_⟩
    refine ifF rfl ?_
    exact hN _ ⟨m, vd d, hm, rfl, rfl⟩
  obtain ⟨m, o, hm, ho, rfl⟩ := hI
  refine ⟨⟨_, _, rfl, rfl⟩, _, rfl, _, rfl, f.w, .inl rfl, by rw [e1]; omega, sl (n := 1) (by decide), sl (n := 6) (by decide), _, _, rfl, rfl, w_pick hm (by simp) (by simp) fun odd m hm hd => ⟨trivial, _, rfl, nb rfl, ?_⟩⟩
  have hno : noStr odd = true := by
    obtain ⟨ds, ed⟩ := f.tup
    rw [ed] at hd
    simp at hd
    rcases hd with rfl | rfl | rfl | rfl | rfl | rfl <;> rfl
  refine norm [vd sc, some (.own m), vd f.d, vd (.lst (sD f.w)), o, vd odd] rfl ?_
  refine w_lread_bad hno ⟨trivial, sl (n := 3) (by decide), true, eq_badT, ?_⟩
  refine ⟨⟨_, _, rfl, rfl⟩, _, _, rfl, rfl, w_draw hm (by decide) (by decide) fun r m hm r0 r1 => ⟨trivial, _, rfl, ?_⟩⟩
  have fin : ∀ m, (sRet (pCall sp__law_right (fun x e => finR false e fun _ => False) (pCons (pVar 3) pNil))) { nx := fun e => finR false e fun _ => (Sv.val .non) = .val (.bl true), rt := fun sv e => isOut sv ∧ finR false e fun _ => sv = .val (.bl true), bk := fun _ => False, ct := fun _ => False } [vd sc, some (.own m), vd f.d, vd (.lst (sD f.w)), o, vd odd] := fun m =>
    w_right (wok_mono wk (by decide)) ⟨trivial, trivial, rfl⟩
  refine ⟨_, rfl, ?_⟩
  refine ifd (fun h1 => ?_) (fun h1 => ?_)
  · refine ⟨⟨_, _, rfl, rfl⟩, _, _, rfl, rfl, w_long hm fun m hm => ⟨trivial, _, rfl, ?_⟩⟩
    exact fin m
  · exact fin m
end
end K90
set_option Elab.async false
set_option linter.all false
set_option maxRecDepth 100000
set_option maxHeartbeats 4000000
open PySem PySem.W PySem.Calls PyProof.Rows
theorem PySem.Challenge.cw_shelfmill_k90_formula_texts_whole_holds : PySem.Challenge.rw_shelfmill_k90_formula_texts_whole.Holds := by
  w_on; o_law
  refine HandSHeadRun.head_any (r := OpenLaw.row PySem.Challenge.rw_shelfmill_k90_formula_texts_whole) (q := view (OpenLaw.row PySem.Challenge.rw_shelfmill_k90_formula_texts_whole).prog [39]) (H := K90.hk) (ob := K90.ob) (M := 2800) (loose := ([PySem.Str.ofString "ShelfmillError", PySem.Str.ofString "BadArgument", PySem.Str.ofString "BadText", PySem.Str.ofString "is_figures", PySem.Str.ofString "count_in", PySem.Str.ofString "row_words", PySem.Str.ofString "formula_words", PySem.Str.ofString "told_formula", PySem.Str.ofString "word_at", PySem.Str.ofString "atom_in", PySem.Str.ofString "formula_in", PySem.Str.ofString "read_formula", PySem.Str.ofString "_law_begin", PySem.Str.ofString "_law_draw", PySem.Str.ofString "_law_pick", PySem.Str.ofString "_law_number", PySem.Str.ofString "_law_count", PySem.Str.ofString "_law_atom", PySem.Str.ofString "_law_formula", PySem.Str.ofString "_law_words", PySem.Str.ofString "_law_is_figures", PySem.Str.ofString "_law_due", PySem.Str.ofString "_law_read_by_hand", PySem.Str.ofString "_law_spoilt_once", PySem.Str.ofString "_law_spoilt", PySem.Str.ofString "_law_read", PySem.Str.ofString "_law_right", PySem.Str.ofString "_law_long_right", PySem.Str.ofString "MOST_DEPTH", PySem.Str.ofString "PARTS", PySem.Str.ofString "MOST_FIGURES", PySem.Str.ofString "MOST_SIGNS", PySem.Str.ofString "FIGURES", PySem.Str.ofString "NUMBERS"] : List PySem.Str)) (d := HandSHeadRun.topDef (OpenLaw.row PySem.Challenge.rw_shelfmill_k90_formula_texts_whole).prog 39) (kwd := []) K90.ob_eq
    (by kernel_rfl) (fun s => by kernel_rfl) K90.run (by kernel_rfl) (by kernel_rfl) (by kernel_rfl) (by rfl) (by first | assumption | decide +kernel) (by decide +kernel) ⟨rfl, rfl, rfl, rfl, rfl, by decide +kernel⟩ ?hw ?hc
  case hw => w_witness2
  case hc =>
    refine PL.walk_ofG (l := PySem.Challenge.rw_shelfmill_k90_formula_texts_whole) (n := 63) (k := 21) (x := "script") rfl (by decide) (by kernel_rfl) ⟨rfl, by decide, by decide⟩ ?F
    intro w mg fa h Y G hmg0
    obtain ⟨K, KX, c⟩ := Y
    have hmg : mg ("law" : PySem.Str) = some (.ref fa) := by
      have e : (HandSHeadRun.topDef (OpenLaw.row PySem.Challenge.rw_shelfmill_k90_formula_texts_whole).prog 39).name = ("law" : PySem.Str) := by kernel_rfl
      rw [← e]
      exact hmg0
    obtain ⟨fd, F⟩ := c.def_ 25 (d := K90.d_law) rfl rfl rfl
    have e := hmg.symm.trans (He.glo_ok KX G (c.fact (f := .glo "law") (by simp [K90.tb, K90.faT])))
    cases e
    have b := L2.FunD.bindsA (ps := ["script"]) F fun _ _ _ _ _ _ us hl => match us, hl with | [_], _ => rfl
    exact ⟨K, fd, (fun vs H Q _ => PL.l2sp K mg (PL.semFn 5 1 false K90.b_law) vs H Q fun _ _ _ => False), KX, fun s u => b s [u] rfl, PL.law_at (n := 63) K90.pure_law, fun base _ _ => PL.law_fn (n := 60) (nloc := 5) (p := K90.b_law) (S := K90.S_law) (d := K90.d_law) F rfl K90.sc_law rfl rfl rfl K90.tie_law (K90.com c KX G K90.S_law rfl rfl rfl rfl)
      (PL.gok_fn (K90.has__law_right c KX G) (by decide) (PL.gok_fn (K90.has__law_long_right c KX G) (by decide) (PL.gok_fn (K90.has__law_draw c KX G) (by decide) (PL.gok_fn (K90.has__law_read c KX G) (by decide) (PL.gok_fn (K90.has__law_pick c KX G) (by decide) (PL.gok_fn (K90.has__law_spoilt c KX G) (by decide) (PL.gok_fn (K90.has_told_formula c KX G) (by decide) (PL.gok_fn (K90.has__law_words c KX G) (by decide) (PL.gok_fn (K90.has__law_formula c KX G) (by decide) (PL.gok_fn (K90.has__law_begin c KX G) (by decide) PL.gok_nil))))))))))⟩
