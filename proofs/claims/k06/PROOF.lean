import PyProof.Rows.All
import HandS.Base
import HandS.Call
import HandS.ClsMeth
import HandS.Comp
import HandS.Conv
import HandS.DeepEq
import HandS.Defaults
import HandS.EndTab
import HandS.Evl
import HandS.Exc
import HandS.ExcField
import HandS.ExcInit
import HandS.ExcIs
import HandS.ExcOwn
import HandS.ExcSuper
import HandS.Finally
import HandS.ForMost
import HandS.Head0
import HandS.Head1
import HandS.Head2
import HandS.Head3
import HandS.HeadEnd
import HandS.HeadHook1
import HandS.HeadHook2
import HandS.HeadHook3
import HandS.HeadHook4
import HandS.IsInst
import HandS.Iter
import HandS.List
import HandS.MakeKwOnly
import HandS.More
import HandS.Nested
import HandS.NoneIn
import HandS.OwnEq
import HandS.Property
import HandS.Set
import HandS.SetBool
import HandS.Small
import HandS.Strs
import HandS.Text
import HandS.TryMany
import HandS.TupAny
import HandS.TupSets
import HandS.Walk
import HandS.Words
import HandS.WordsDict
import HandS.WordsExc
import HandS.Zip
import HandS.Zip0
import KE.KDictDisplayH
import KE.KExcInit
import KE.KExcLine
import KE.KFromBytes
import KE.KStateDown
import KE.KSuper
import OpenK.AllK
import PyProof.AutoSeq1
import PyProof.CallFns
import PyProof.DictKinds
import PyProof.Draws
import PyProof.EqAt
import PyProof.EqKinds
import PyProof.FactsAll.set_2
import PyProof.InstNe
import PyProof.NeKinds
import PyProof.P3Statements
import PyProof.ReprRoads
import PyProof.TupleCall
import PyProof.ZipIter
import Wide.All
import Wide.FinOn
import PySem.Challenge.RW_lateclasses_k06_errors_of_tables
set_option Elab.async false
set_option linter.all false
set_option maxRecDepth 100000
set_option maxHeartbeats 2000000
/-! own exceptions over an own class over Exception, whose __init__ says super().__init__(text) and stores its arguments -/
namespace EX2
open PySem PySem.Spec PyProof.Rows L2
abbrev bmE : List Value := [.type "Exception", .type "BaseException", .type "object"]
/-- what the written part says of such a class -/
structure ExK (K : PySem.W.Frag) (C : Addr) : Prop where
  init : PySem.W.excInitIn K C bmE "Exception.__new__" = true
  over : PySem.W.excOver K C bmE = true
  hdC : PySem.W.hasDictIn K C = true
  sa : PySem.W.findIn K (.ref C) "__setattr__" = some (some (.builtin "object.__setattr__"))
  exC : PySem.W.subIn K (.ref C) (.type "BaseException") = some true
  exE : PySem.W.subIn K (.ref C) (.type "Exception") = some true
  tyC : PySem.W.typeIn K (.ref C) = some (.type "type")
  kC : PySem.W.keepIn K (.ref C) = true
section
open PySem.W PySem.Calls
open Builtin Builtin.ObjectAttr
variable {prog : Program} {w : World} {A : Around} {E : Value → Shared → Prop} {R : Result → Shared → Prop} {hp : Heap} {g : Array GenState} {d : Drawn} {t : Nat} {os : OsState}
theorem taker_none {K : PySem.W.Frag} {C : Addr} {name : Str} (ha : PySem.W.findIn K (.ref C) name = some none) : PySem.W.takerIn K C name = some none := by
  unfold PySem.W.takerIn
  rw [ha]
  rfl
theorem osa_new {K : PySem.W.Frag} {name : Str} {tk : Tok} {v : Value} {x C : Addr} {fv : Array Value} (T : ExK K C)
    (X : K.In hp) (hx : hp.get? x = some { cls := .ref C, data := .fields fv }) (ha : PySem.W.findIn K (.ref C) name = some none)
    (hq : ∀ h' tk' dx, (∀ b o, b ≠ x → hp.get? b = some o → h'.get? b = some o) → hp.objs.size ≤ dx → dx ≠ x → h'.get? x = some { cls := .ref C, dict := some dx, data := .fields fv } →
      h'.Ns1 dx (fun y => if y = name then some v else none) → R (.ok (.ret .none)) ⟨h', g, d, tk', os⟩) :
    codeAny (model prog w) A (.call (.builtin "object.__setattr__") ⟨[.ref x, .str name tk, v], []⟩) R ⟨hp, g, d, t, os⟩ := by
  have I : PySem.W.InstAt hp x { cls := .ref C, data := .fields fv } C none := ⟨hx, rfl, rfl, trivial⟩
  have hxs : x ≠ hp.objs.size := Nat.ne_of_lt (Heap.lt_size hx)
  refine PySem.W.osa_openX F.store_Exception (s := ⟨hp, g, d, t, os⟩) X I T.over (taker_none ha) fun b => ?_
  obtain ⟨cd, hcd, hh⟩ := PySem.W.any_some T.hdC
  have hcls : PySem.W.Looks (model prog w) hp (classData C) cd := PySem.W.looks_clsIn X hcd
  obtain ⟨nm, bs, mro, ns, qn, hd, sn, sb, ab, col, del⟩ := cd
  dsimp only at hh
  subst hh
  show wpAny _ _ (storeInOwnDict (.ref x) (.ref C) (.str name tk) name v b) _ _ _
  unfold storeInOwnDict ownDictForStores
  repeat (first | with_reducible refine HandSPX.store_in_new ?_ ?_ | with_reducible refine wpAny_loadPart_at hx ?_ | with_reducible refine hcls.at ?_ | wp_step)
  · exact ⟨_, #[], _, (Heap.get?_update_ne _ _ _ _ hxs.symm).trans (Heap.get?_push_at rfl rfl), rfl, fun e he => absurd he (by simp), fun _ => rfl⟩
  · intro h' tk' hn' hs
    have hx₁ : (hp.push { cls := .type "dict", data := .dict #[] }).get? x = some { cls := .ref C, data := .fields fv } := Heap.get?_push_of_some _ hx
    refine hq h' tk' hp.objs.size (fun b o hb ho => ?_) (Nat.le_refl _) hxs.symm ?_ hn'
    · exact (hs.2 b (Nat.ne_of_lt (Heap.lt_size ho))).trans ((Heap.get?_update_ne _ _ _ _ hb).trans (Heap.get?_push_of_some _ ho))
    · exact (hs.2 x hxs).trans (Heap.get?_update_self _ hx₁ rfl)
theorem osa_old {K : PySem.W.Frag} {name : Str} {tk : Tok} {v : Value} {x C dx : Addr} {fv : Array Value} {m0 : Str → Option Value} {nl : List Str} (T : ExK K C)
    (X : K.In hp) (hx : hp.get? x = some { cls := .ref C, dict := some dx, data := .fields fv }) (hns : hp.Ns1 dx m0) (hw : Within m0 nl) (hz : nl.length ≤ 1000)
    (ha : PySem.W.findIn K (.ref C) name = some none)
    (hq : ∀ h' tk', (∀ b o, b ≠ dx → hp.get? b = some o → h'.get? b = some o) → h'.Ns1 dx (fun y => if y = name then some v else m0 y) → R (.ok (.ret .none)) ⟨h', g, d, tk', os⟩) :
    codeAny (model prog w) A (.call (.builtin "object.__setattr__") ⟨[.ref x, .str name tk, v], []⟩) R ⟨hp, g, d, t, os⟩ := by
  obtain ⟨oD, esD, epD, hoD, hdD, _⟩ := hns.count hw
  have I : PySem.W.InstAt hp x { cls := .ref C, dict := some dx, data := .fields fv } C (some oD) := ⟨hx, rfl, rfl, hoD⟩
  refine PySem.W.osa_openX F.store_Exception (s := ⟨hp, g, d, t, os⟩) X I T.over (taker_none ha) fun b => ?_
  obtain ⟨cd, hcd, hh⟩ := PySem.W.any_some T.hdC
  have hcls : PySem.W.Looks (model prog w) hp (classData C) cd := PySem.W.looks_clsIn X hcd
  obtain ⟨nm, bs, mro, ns, qn, hd, sn, sb, ab, col, del⟩ := cd
  dsimp only at hh
  subst hh
  show wpAny _ _ (storeInOwnDict (.ref x) (.ref C) (.str name tk) name v b) _ _ _
  unfold storeInOwnDict ownDictForStores
  repeat (first | with_reducible refine ESX.store_in_old hns hw hz ?_ | with_reducible refine wpAny_loadPart_at hx ?_ | with_reducible refine hcls.at ?_ | wp_step)
  intro h' tk' hn' hs
  exact hq h' tk' (fun b o hb ho => (hs.2 b hb).trans ho) hn'
end
end EX2
set_option Elab.async false
set_option linter.all false
set_option maxRecDepth 100000
set_option maxHeartbeats 2000000
namespace EX2
open PySem PySem.Spec PyProof.Rows L2
section
variable {X : Cx} {pins : List (Addr × Obj)} {σ : L2.St} {H : Hp} {s : Shared} {a C dx : Addr} {f : Str} {y : V} {u : Value} {fs : List (Str × V)} {Q : Unit → Shared → Prop} {E : Value → Shared → Prop} {A : Around}
/-- self.f = y, the first one -/
theorem ost_new (T : ExK X.K C) (I : Inv X pins σ H s) (e : H a = some (exo a C none)) (hno : PySem.W.findIn X.K (.ref C) f = some none) (ry : RelV y u)
    (h : ∀ dx s', H dx = none → dx ≠ a → Inv X pins σ (upd (upd H dx (exd dx [(f, y)])) a (exo a C (some dx))) s' → Q () s') : wpAny (model X.prog X.w) A (setAttr (.ref a) f u) Q E s := by
  obtain ⟨t1, ho⟩ := exo_at I.hok e
  obtain ⟨hp, g, d, t, os⟩ := s
  refine PySem.W.set_plain I.kIn (ox := { cls := .ref C, dict := none, data := .fields #[.ref t1, .none, .none, .none, .bool false, .none] }) (od := none) ⟨ho, rfl, rfl, trivial⟩ T.sa ?_
  refine EX2.osa_new T I.kIn ho hno (fun h' tk' dx k dn dne hx hn => ?_)
  have hnd : H dx = none := I.hok.fresh dn
  have nd : ∀ {b : Addr} {o : Obj}, hp.get? b = some o → b ≠ dx := fun {b o} q => Nat.ne_of_lt (Nat.lt_of_lt_of_le (Heap.lt_size q) dn)
  have na : ∀ {b : Addr}, H b = none → b ≠ a := fun {b} n z => by
    rw [z, e] at n
    cases n
  have Un1 : Un X.fs [] H (upd (upd H dx (exd dx [(f, y)])) a (exo a C (some dx))) hp h' := {
    keep := fun b o q n _ _ => k b o (na n) q
    slot := fun b o q n _ _ => ⟨o.slots, k b o (na n) q⟩
    free := fun b o q n _ => by rw [upd_ne (na n), upd_ne (nd q)]; exact n
    there := fun b o q _ => by
      by_cases hb : b = a
      · exact ⟨_, by rw [hb]; exact hx⟩
      · exact ⟨o, k b o hb q⟩
    tups := fun b xs q => by rw [upd_ne (at_ne e q exo_tup), upd_ne (ne_of_none q hnd)]; exact q
    frzs := fun b o v q => by rw [upd_ne (at_ne e q exo_frz), upd_ne (ne_of_none q hnd)]; exact q
    tbls := fun b ps q => ⟨#[], by rw [upd_ne (at_ne e q exo_tbl), upd_ne (ne_of_none q hnd), q]; simp⟩ }
  refine h dx _ hnd dne (I.un (t' := tk') Un1 fun b o q => ?_)
  by_cases hb : b = a
  · subst hb
    rw [upd_same] at q
    cases q
    exact exo_ok hx
  · rw [upd_ne hb] at q
    by_cases hd : b = dx
    · subst hd
      rw [upd_same] at q
      cases q
      exact exd_ok hn (relO_put (fs := []) ry fun g => True.intro)
    · rw [upd_ne hd] at q
      exact (I.hok b o q).stay (fun c v hc z => k c v (by
          rcases hc with hc | hc
          · rw [hc]
            exact hb
          · exact at_ne e hc exo_own) z)
        (fun c hc => by rw [upd_ne (at_ne e hc exo_own), upd_ne (ne_of_none hc hnd)]; exact hc) (fun c xs hc => by rw [upd_ne (at_ne e hc exo_tup), upd_ne (ne_of_none hc hnd)]; exact hc)
/-- self.f = y, a further one -/
theorem ost_old (T : ExK X.K C) (I : Inv X pins σ H s) (e : H a = some (exo a C (some dx))) (ed : H dx = some (exd dx fs)) (hl : fs.length ≤ 900) (hno : PySem.W.findIn X.K (.ref C) f = some none) (ry : RelV y u)
    (h : ∀ s', Inv X pins σ (upd H dx (exd dx ((f, y) :: fs))) s' → Q () s') : wpAny (model X.prog X.w) A (setAttr (.ref a) f u) Q E s := by
  obtain ⟨t1, ho⟩ := exo_at I.hok e
  obtain ⟨mA, hns, rel⟩ := exd_at I.hok ed
  have hw := within_of rel
  obtain ⟨hp, g, d, t, os⟩ := s
  obtain ⟨oD, _, _, hoD, _, _⟩ := hns.count hw
  refine PySem.W.set_plain I.kIn (ox := { cls := .ref C, dict := some dx, data := .fields #[.ref t1, .none, .none, .none, .bool false, .none] }) (od := some oD) ⟨ho, rfl, rfl, hoD⟩ T.sa ?_
  refine EX2.osa_old T I.kIn ho hns hw (by rw [List.length_map]; omega) hno (fun h' tk' k hn => ?_)
  have hd : ∃ o, h'.get? dx = some o := by
    obtain ⟨o, _, _, e', _⟩ := hn
    exact ⟨o, e'⟩
  exact h _ (I.write (t' := tk') (x := dx) (e := dx) (o := exd dx ((f, y) :: fs)) (by rw [ed]; exact True.intro) (.inl rfl) k hd (exd_ok hn (relO_put ry rel)))
end
/-- o.f = v, o an exception that is being made -/
def gOst (K : PySem.W.Frag) (f : Str) (to : TE) : TG := fun y σ H Q => to σ H fun x H2 => ∃ a C : Addr, x = .ref a ∧ ExK K C ∧ PySem.W.findIn K (.ref C) f = some none ∧
  ((H2 a = some (exo a C none) ∧ ∀ dx, H2 dx = none → dx ≠ a → Q σ (upd (upd H2 dx (exd dx [(f, y)])) a (exo a C (some dx)))) ∨
    ∃ (dx : Addr) (fs : List (Str × V)), H2 a = some (exo a C (some dx)) ∧ H2 dx = some (exd dx fs) ∧ fs.length ≤ 900 ∧ Q σ (upd H2 dx (exd dx ((f, y) :: fs))))
theorem pg_ost {X : Cx} {o : Expr} {to : TE} {f : Str} {p : Pos} (ho : PE X o to) : PG X (.Attribute o f p) (gOst X.K f to) := by
  refine ⟨fun pins s σ H v u Q I r h => ?_⟩
  refine PySem.W.kas_attr (thn (ho.run pins s σ H _ I h) fun ov s2 ⟨x, H2, I2, r2, a, C, ex, T, hno, q⟩ => ?_)
  subst ex
  obtain rfl : ov = Value.ref a := r2
  rcases q with ⟨ea, q⟩ | ⟨dx, fs, ea, ed, hl, q⟩
  · exact ost_new T I2 ea hno r fun dx s' n ne J => ⟨σ, _, J, q dx n ne⟩
  · exact ost_old T I2 ea ed hl hno r fun s' J => ⟨σ, _, J, q⟩
/-! ### the def with its cell -/
/-- such an __init__ as it stands behind the top -/
structure SuF (P : Program) (K : PySem.W.Frag) (qual : Str) (st : Stmt) (C f : Addr) (fd : FuncData) : Prop where
  ex : ∃ (oc : Value) (od : Option Addr) (osl : Array (Option Value)) (doc pm ctv : Value) (cc c : Addr) (ocl : Obj) (occ : Obj) (vs : Array Value) (file : Str) (tf : Tok),
    fd = (NdefX.NF.mk "__init__" qual (defArgs st) (defBody st) (defScope st) [("__class__", cc)] c).fd doc pm ctv ∧ K.lookup f = some ⟨oc, od, .func fd, osl⟩ ∧ PySem.W.codeIn K (.ref c) qual = true ∧
      K.lookup cc = some ocl ∧ ocl.data = .cell (some (.ref C)) ∧ K.lookup c = some occ ∧ occ.data = .fields vs ∧ vs[2]? = some (.str file tf) ∧ ((P.main.file : Str) == file) = true
  at_ : PySem.W.findIn K (.ref C) "__init__" = some (some (.ref f))
  ty : PySem.W.typeIn K (.ref f) = some (.type "function")
/-- what a made exception holds: fs its fields -/
def spX (C : Addr) (n : Nat) (fs : List V → List (Str × V)) : Sp := fun vs H Q _ => ∃ a xs, vs = .ref a :: xs ∧ xs.length = n ∧ H a = some (exo a C none) ∧
  ∀ (H' : Hp) (dx : Addr), (∀ b o, b ≠ a → H b = some o → H' b = some o) → H dx = none → dx ≠ a → H' a = some (exo a C (some dx)) → H' dx = some (exd dx (fs xs)) → Q .non H'
theorem two_ok : 2 ≤ sizeLine := by rw [sizeLine_eq]; decide
theorem type_super : bootBuiltins "super" = some (.type "super") := by kernel_rfl
section
variable {P : Program} {w : World} {K : PySem.W.Frag} {mg : Str → Option Value} {base : Heap} {f C : Addr} {fd : FuncData} {k : Nat}
theorem call_form {o : Expr} {name : Str} {apos pos : Pos} {e : Const} {j : Nat} {p3 : Pos} {env : Env} (hln : (apos.endLine == pos.line) = true) : eval (.Call (.Attribute o name apos) [.Constant e j p3] [] pos) env = (do
      let ov ← attributeBase o name env (eval o env)
      standAt apos.atName
      let (f, first) ← holding [ov] (getMethod ov name (do return (← importBound o env).getD true))
      callWith pos f first (backTo pos (starEach [.Constant e j p3] env)) []) := by
  have e1 : methodCallPos true o env apos pos = pure pos := by
    unfold methodCallPos
    rw [hln]
    rfl
  show (do
    let ov ← attributeBase o name env (eval o env)
    standAt apos.atName
    let (f, first) ← holding [ov] (getMethod ov name (do return (← importBound o env).getD true))
    let callPos ← methodCallPos true o env apos pos
    callWith callPos f first (backTo pos (starEach [.Constant e j p3] env)) []) = _
  rw [e1]
  rfl
theorem ok_xinit {qual : Str} {st : Stmt} {ps : List Str} {N : List Str} {msg : Str} {j : Nat} {p0 p1 p2 p3 p4 p5 : Pos} {rest : List Stmt} {n : Nat} {fs : List V → List (Str × V)} (F : SuF P K qual st C f fd) (T : ExK K C)
    (hb : defBody st = .Expr (.Call (.Attribute (.Call (.Name "super" p0) [] [] p1) "__init__" p2) [.Constant (.str msg) j p3] [] p4) p5 :: rest)
    (S : NdefX.NScope N (("self" : Str) :: ps) ["__class__"] (defScope st)) (hps : ps.length = n) (hks : (defScope st).names.lookup ("super" : Str) = some .globalImplicit)
    (har : ((defArgs st).posonlyargs ++ (defArgs st).args).head?.map (·.arg) = some (("self" : Str)))
    (hsu : PySem.W.ks_superIn K C C "__init__" = some (some (.builtin "Exception.__init__"))) (hmC : PySem.W.mroIn K C (.ref C) = some true) (hop : PySem.W.nsIn K cStatics "thirdparty.any" = some none)
    (hln : (p2.endLine == p4.line) = true) (gS : mg "super" = none) (htop : (P.main.scope.names.lookup ("super" : Str)).isSome = false)
    (hrest : ∀ (A : Around) (outer : List Env) (s : Shared) (H : Hp) (cc c : Addr) (a : Addr) (xs : List V) (Q : VK) (E : XK), xs.length = n → H a = some (exo a C none) →
      (∀ (H' : Hp) (dx : Addr), (∀ b o, b ≠ a → H b = some o → H' b = some o) → H dx = none → dx ≠ a → H' a = some (exo a C (some dx)) → H' dx = some (exd dx (fs xs)) → Q .non H') →
      ∃ t, PSs (NdefX.ncx CX0 P w K mg base N (NdefX.NF.mk "__init__" qual (defArgs st) (defBody st) (defScope st) [("__class__", cc)] c) f A outer s H E).nox rest t ∧ t { nx := fun _ H' => Q .non H', rt := Q } (NdefX.startF N (.ref a :: xs) [some (.ref C)]) H) :
    FnOk P w K mg base CX0 (k + 1) f fd (("self" : Str) :: ps) (spX C n fs) := by
  refine ⟨fun vs H Q E h => ?_, fun A outer s H args us vs Q E hr e0 hbi r hsp => ?_⟩
  · obtain ⟨a, xs, rfl, hl, _⟩ := h
    simp [hl, hps]
  · obtain ⟨oc, od, osl, doc, pm, ctv, cc, c, ocl, occ, fvs, file, tf, rfl, lk, hcd, lcc, dcc, lc, dc, hvs, hfile⟩ := F.ex
    have KX : K.In s.heap := e0.mod.kin.keeps fun b o e => (e0.bs b o e).1
    have lim : s.heap.NoLimit := e0.mod.nolimit.keeps fun b o e => (e0.bs b o e).1
    obtain ⟨a, xs, rfl, hl, ea, hQ⟩ := hsp
    have hvl : (V.ref a :: xs).length = (("self" : Str) :: ps).length := by simp [hl, hps]
    have gbase : ∀ {b : Addr} {o : Obj}, K.lookup b = some o → base.get? b = some o := fun e => e0.mod.kin _ _ e
    have hloc : ∀ x ∈ (("self" : Str) :: ps).zip us, (defScope st).names.lookup x.1 = some .local := fun ⟨n, v⟩ hy => S.par n (List.of_mem_zip hy).1
    refine ks_codeAny_call_defAt (binds := (("self" : Str) :: ps).zip us) hr.depth (KX _ _ lk) rfl lim (PySem.W.codeRec_of KX hcd) rfl hbi S.nocell hloc (fun h₁ hns kp => ?_) S.co S.gen S.kind
    have CA : NdefX.CellsAt [("__class__", cc)] ["__class__"] [some (.ref C)] s.heap H := by
      have hc0 : s.heap.get? cc = some ocl ∧ H cc = none := e0.bs _ _ (gbase lcc)
      refine ⟨rfl, fun y c' e => ?_, fun x y c' e1 e2 => ?_, fun i y hy => ?_⟩
      · have : c' = cc := by
          simp only [List.lookup] at e
          split at e
          · exact (Option.some.inj e).symm
          · cases e
        subst this
        exact ⟨hc0.2, _, ocl, hc0.1, dcc⟩
      · have one : ∀ z, List.lookup z [(("__class__" : Str), cc)] = some c' → z = "__class__" := fun z e => by
          simp only [List.lookup] at e
          split at e
          · rename_i q
            exact beq_iff_eq.mp q
          · cases e
        rw [one x e1, one y e2]
      · have : y = "__class__" := by
          cases i with
          | zero => exact (Option.some.inj hy).symm
          | succ i => simp at hy
        subst this
        refine ⟨cc, by simp [List.lookup], fun v hv => ?_⟩
        have : v = .ref C := by
          cases i with
          | zero => exact (Option.some.inj (Option.some.inj hv)).symm
          | succ i => simp at hv
        subst this
        exact ⟨_, rfl, ocl, hc0.1, dcc⟩
    have I : Inv (NdefX.ncx CX0 P w K mg base N (NdefX.NF.mk "__init__" qual (defArgs st) (defBody st) (defScope st) [("__class__", cc)] c) f A outer s H E) [] (NdefX.startF N (.ref a :: xs) [some (.ref C)]) H { s with heap := h₁, toks := s.toks + ((("self" : Str) :: ps).zip us).length } :=
      NdefX.inv_startN S hr.hd e0 hvl r CA hns kp
    have KX1 : K.In h₁ := KX.keeps kp
    obtain ⟨nm, Nn, qd, bs, bm, hdct, sn, sub, ab, col, dd, k0, k1, k2', k3', k5, hC1, hT⟩ := PySem.W.excInit_of KX1 T.init
    obtain ⟨t0, ho⟩ := exo_at I.hok ea
    obtain ⟨cdC, hclC, _⟩ := PySem.W.any_some T.hdC
    have hxC : a ≠ C := fun z => by
      rw [z] at ho
      rw [hC1] at ho
      cases ho
    obtain ⟨ar, har1, har2⟩ := Option.map_eq_some_iff.mp har
    have hself : ((("self" : Str) :: ps).zip us).reverse.lookup (("self" : Str)) = some (.ref a) := by
      cases r with
      | cons r1 r2 =>
        obtain rfl : _ = Value.ref a := r1
        exact NdefX.zip_look (i := 0) (by
          have q := S.nd.sublist (List.take_sublist ((("self" : Str) :: ps).length + [("__class__" : Str)].length) N)
          rw [S.pre] at q
          exact (List.nodup_append.mp q).1) rfl rfl
    obtain ⟨mb, hmb1, hmb2⟩ := e0.mod.blt
    have bk1 : ∀ b o, base.get? b = some o → h₁.get? b = some o := fun b o e => kp _ _ (e0.bs b o e).1
    show PySem.wpAt (model P w) _ (.func (defBody st) _) (execs (defBody st) _) _ _ _
    rw [hb]
    refine ks_wpAt_execs_cons (ks_wpAt_Expr_any (ks_wpAt_MethodCall (pl := do return (← importBound (.Call (.Name (("super" : Str)) p0) [] [] p1) (callEnv ((NdefX.NF.mk "__init__" qual (defArgs st) (defBody st) (defScope st) [("__class__", cc)] c).fd doc pm ctv) s.heap.objs.size f)).getD true) ?_ (call_form hln)) I.quiet)
    refine ks_wpAt_super_base (f := f) (cc := c) (ar := ar) (of := _) (oc := occ) (vs := fvs) (file := file) (tf := tf) hks (S.frk _ (by simp)) (by decide) rfl (kp _ _ (KX _ _ lk)) rfl har1 rfl (kp _ _ (KX _ _ lc)) dc hvs hfile htop ?_
    refine PySem.W.ks_loadName_global S.kind hks (Calls.loadGlobal_builtin (mg := mg) (e0.mod.glob.keeps bk1) gS (hmb1.keeps bk1) ((hmb2 _ (by decide)).trans type_super) ⟨rfl, ?_⟩)
    refine wpAny_loadName_free S.kind (S.frk _ (by simp)) rfl ⟨_, kp _ _ (KX _ _ lcc), dcc⟩ ?_
    refine wpAny_loadName_local S.kind (by rw [har2]; exact S.par _ (by simp)) hns (by rw [har2]; exact hself) ?_
    refine ks_wpAny_isType_cls hC1 rfl ⟨rfl, ?_⟩
    have IA : PySem.W.InstAt h₁ a { cls := .ref C, dict := none, data := .fields #[.ref t0, .none, .none, .none, .bool false, .none] } C none := ⟨ho, rfl, rfl, trivial⟩
    have subC : PySem.W.Looks (model P w) h₁ (isSubtype (.ref C) (.ref C)) true := PySem.W.looks_mroIn KX1 hmC
    refine ks_wpAny_call_super hC1 rfl ho rfl (fun c e => by cases e) subC (fun h2 e2 k2 => ?_)
    have I2 := I.kept (t' := s.toks + (((("self" : Str) :: ps)).zip us).length) k2
    have KX2 : K.In h2 := KX1.keeps k2
    have IA2 : PySem.W.InstAt h2 a { cls := .ref C, dict := none, data := .fields #[.ref t0, .none, .none, .none, .bool false, .none] } C none := ⟨k2 _ _ ho, rfl, rfl, trivial⟩
    have hin : PySem.W.Looks (model P w) h2 (isInstance (.ref a) (.type "Exception")) true := IA2.type.andThen (PySem.W.looks_subIn KX2 T.exE)
    have hmro : PySem.W.Looks (model P w) h2 (mroOf (.ref C)) cdC.mro := fun A Q E s k q => wpAny_bind ((PySem.W.looks_clsIn KX2 hclC) A _ E s k (wpAny_pure q))
    have hf2 : PySem.W.alongIn K "__init__" ((cdC.mro.dropWhile (· != .ref C)).drop 1) = some (some (.builtin "Exception.__init__")) := by
      have hm := hsu
      unfold PySem.W.ks_superIn at hm
      rw [hclC] at hm
      exact hm
    refine ESX.getMethod_super e2 (PySem.W.looks_opaque KX2 hop) hmro rfl KX2 hf2 hxC (by decide) hin ?_
    have hu : (h2.push (ESX.bw a)).get? h2.objs.size = some (ESX.bw a) := Heap.get?_push_size _ rfl
    have k3 : ∀ b o, h2.get? b = some o → (h2.push (ESX.bw a)).get? b = some o := fun b o e => Heap.get?_push_of_some _ e
    have I3 := I2.kept (h' := h2.push (ESX.bw a)) (t' := s.toks + (((("self" : Str) :: ps)).zip us).length + 1) k3
    refine ESX.callWith_bound (x := a) ?_
    show wpAny _ _ (spliced ((false, eval (.Constant (.str msg) j p3) _) :: backTo p4 (starEach [] _))) _ _ _
    refine Calls.spliced_cons (Calls.Constant_str ?_)
    refine Calls.spliced_nil ⟨hu, ?_⟩
    have hC3 : (h2.push (ESX.bw a)).get? C = some (excClassObj nm qd C Nn bs bm hdct sn sub ab col dd k0 k1 k2' k3' k5 "Exception.__new__") := k3 _ _ (k2 _ _ hC1)
    refine ESX.call_bw hC3 (k3 _ _ (k2 _ _ ho)) hu (by show 1 ≤ sizeLine; rw [sizeLine_eq]; omega) fun h4 t1 k4 hx4 => ?_
    have J := I3.write (h' := h4) (x := a) (e := a) (o := exo a C none) (t' := s.toks + (((("self" : Str) :: ps)).zip us).length + 1 + 1) (by rw [ea]; exact True.intro) (.inl rfl) k4 ⟨_, hx4⟩ (exo_ok hx4)
    have eu : upd H a (exo a C none) = H := by
      funext b
      by_cases hb : b = a
      · rw [hb, upd_same, ea]
      · rw [upd_ne hb]
    rw [eu] at J
    obtain ⟨tt, ht, hq⟩ := hrest A outer s H cc c a xs Q E hl ea hQ
    refine wpAt_of_wpAny (wpAny_mono (ht.nox.run [] _ _ H _ J hq) (fun fl s' hs => ?_) fun e s' hs => hs)
    have fin : ∀ {σ' : L2.St} {H' : Hp} {v : V} {u : Value}, Inv (NdefX.ncx CX0 P w K mg base N (NdefX.NF.mk "__init__" qual (defArgs st) (defBody st) (defScope st) [("__class__", cc)] c) f A outer s H E) [] σ' H' s' → L2.RelV v u → Q v H' → CE outer P w H s Q u s' :=
      fun {σ' H' v u} J rv q => ⟨v, H', J.os, J.bare, J.base, J.hok, rv, q⟩
    cases fl with
    | ret u =>
      obtain ⟨v, σ', H', J, rv, q⟩ := hs
      exact fin J rv q
    | next =>
      obtain ⟨σ', H', J, q⟩ := hs
      exact fin (v := V.non) (u := Value.none) J rfl q
    | brk =>
      obtain ⟨_, _, _, q⟩ := hs
      exact False.elim q
    | cont =>
      obtain ⟨_, _, _, q⟩ := hs
      exact False.elim q
theorem no_swap {env : Env} (hk : env.scope.kind = .function) {o1 o2 : Expr} {a1 a2 : Str} {q1 q2 q3 : Pos} {n1 : Nat} {v : Expr} : swappedStores [.Tuple [.Attribute o1 a1 q1, .Attribute o2 a2 q2] n1 q3] v env = pure none := by
  have e : env.blockKind = .function := by
    unfold Env.blockKind
    rw [hk]
    rfl
  unfold swappedStores
  cases v <;> first | rfl | skip
  rename_i vs _ _
  simp only [e]
  split
  · rfl
  · split
    · rfl
    · rename_i h
      split
      · rfl
      · rename_i h2
        exact absurd (by rfl) h2
/-- self.fl = g -/
theorem ok_x1 {qual : Str} {st : Stmt} {msg g fl : Str} {j : Nat} {p0 p1 p2 p3 p4 p5 q1 q2 q3 q4 : Pos} (F : SuF P K qual st C f fd) (T : ExK K C) (hno : PySem.W.findIn K (.ref C) fl = some none)
    (hb : defBody st = .Expr (.Call (.Attribute (.Call (.Name "super" p0) [] [] p1) "__init__" p2) [.Constant (.str msg) j p3] [] p4) p5 :: [.Assign [.Attribute (.Name "self" q1) fl q2] (.Name g q3) q4])
    (S : NdefX.NScope ["self", g, "__class__"] [(("self" : Str)), g] ["__class__"] (defScope st)) (hks : (defScope st).names.lookup ("super" : Str) = some .globalImplicit)
    (har : ((defArgs st).posonlyargs ++ (defArgs st).args).head?.map (·.arg) = some (("self" : Str)))
    (hsu : PySem.W.ks_superIn K C C "__init__" = some (some (.builtin "Exception.__init__"))) (hmC : PySem.W.mroIn K C (.ref C) = some true) (hop : PySem.W.nsIn K cStatics "thirdparty.any" = some none)
    (hln : (p2.endLine == p4.line) = true) (gS : mg "super" = none) (htop : (P.main.scope.names.lookup ("super" : Str)).isSome = false) (hd : (g == ("__debug__" : Str)) = false) (hcd : (g == ("__classdict__" : Str)) = false) :
    FnOk P w K mg base CX0 (k + 1) f fd [(("self" : Str)), g] (spX C 1 fun xs => [(fl, xs.headD .non)]) := by
  refine ok_xinit F T hb S rfl hks har hsu hmC hop hln gS htop fun A outer s H cc c a xs Q E hl ea hQ => ?_
  match xs, hl with
  | [x], _ =>
    refine ⟨_, pss_one (ps_asg (pe_var (i := 1) rfl (.inl (S.par g (by simp))) hd hcd) (pg_ost (pe_var (i := 0) rfl (.inl (S.par _ (by simp))) (by decide) (by decide)))), ?_⟩
    refine ⟨x, rfl, .ref a, rfl, a, C, rfl, T, hno, .inl ⟨ea, fun dx hd hne => ?_⟩⟩
    refine hQ _ dx (fun b o hb e => ?_) hd hne upd_same ?_
    · rw [upd_ne hb, upd_ne (ne_of_none e hd)]
      exact e
    · rw [upd_ne hne, upd_same]
      rfl
/-- self.f1, self.f2 = g1, g2 -/
theorem ok_x2 {qual : Str} {st : Stmt} {msg g1 g2 f1 f2 : Str} {j n1 n2 : Nat} {p0 p1 p2 p3 p4 p5 q1 q2 q3 q4 q5 q6 q7 q8 q9 : Pos} (F : SuF P K qual st C f fd) (T : ExK K C) (hno1 : PySem.W.findIn K (.ref C) f1 = some none) (hno2 : PySem.W.findIn K (.ref C) f2 = some none)
    (hb : defBody st = .Expr (.Call (.Attribute (.Call (.Name "super" p0) [] [] p1) "__init__" p2) [.Constant (.str msg) j p3] [] p4) p5 :: [.Assign [.Tuple [.Attribute (.Name "self" q1) f1 q2, .Attribute (.Name "self" q3) f2 q4] n1 q5] (.Tuple [.Name g1 q6, .Name g2 q7] n2 q8) q9])
    (S : NdefX.NScope ["self", g1, g2, "__class__"] [(("self" : Str)), g1, g2] ["__class__"] (defScope st)) (hks : (defScope st).names.lookup ("super" : Str) = some .globalImplicit)
    (har : ((defArgs st).posonlyargs ++ (defArgs st).args).head?.map (·.arg) = some (("self" : Str)))
    (hsu : PySem.W.ks_superIn K C C "__init__" = some (some (.builtin "Exception.__init__"))) (hmC : PySem.W.mroIn K C (.ref C) = some true) (hop : PySem.W.nsIn K cStatics "thirdparty.any" = some none)
    (hln : (p2.endLine == p4.line) = true) (gS : mg "super" = none) (htop : (P.main.scope.names.lookup ("super" : Str)).isSome = false) (hd1 : (g1 == ("__debug__" : Str)) = false) (hcd1 : (g1 == ("__classdict__" : Str)) = false)
    (hd2 : (g2 == ("__debug__" : Str)) = false) (hcd2 : (g2 == ("__classdict__" : Str)) = false) :
    FnOk P w K mg base CX0 (k + 1) f fd [(("self" : Str)), g1, g2] (spX C 2 fun xs => [(f2, xs.getD 1 .non), (f1, xs.getD 0 .non)]) := by
  refine ok_xinit F T hb S rfl hks har hsu hmC hop hln gS htop fun A outer s H cc c a xs Q E hl ea hQ => ?_
  match xs, hl with
  | [x, y], _ =>
    refine ⟨_, pss_one (ps_asg (pe_tup (pa_cons (pe_var (i := 1) rfl (.inl (S.par g1 (by simp))) hd1 hcd1) (pa_cons (pe_var (i := 2) rfl (.inl (S.par g2 (by simp))) hd2 hcd2) pa_nil)))
      (pg_tup rfl (pgs_cons (pg_ost (pe_var (i := 0) rfl (.inl (S.par _ (by simp))) (by decide) (by decide))) (pgs_cons (pg_ost (pe_var (i := 0) rfl (.inl (S.par _ (by simp))) (by decide) (by decide))) pgs_nil))) (hw := no_swap S.kind)), ?_⟩
    refine ⟨x, rfl, y, rfl, two_ok, fun p hp => ⟨p, [x, y], rfl, SqT.of upd_same, rfl, x, [y], rfl, ?_⟩⟩
    have hap : a ≠ p := ne_of_none ea hp
    refine ⟨.ref a, rfl, a, C, rfl, T, hno1, .inl ⟨by rw [upd_ne hap]; exact ea, fun dx hd hne => ?_⟩⟩
    refine ⟨y, [], rfl, .ref a, rfl, a, C, rfl, T, hno2, .inr ⟨dx, [(f1, x)], upd_same, by rw [upd_ne hne, upd_same], by simp, rfl, ?_⟩⟩
    have hdp : H dx = none ∧ dx ≠ p := by
      by_cases e : dx = p
      · rw [e, upd_same] at hd
        cases hd
      · rw [upd_ne e] at hd
        exact ⟨hd, e⟩
    refine hQ _ dx (fun b o hb e => ?_) hdp.1 hne ?_ upd_same
    · rw [upd_ne (ne_of_none e hdp.1), upd_ne hb, upd_ne (ne_of_none e hdp.1), upd_ne (ne_of_none e hp)]
      exact e
    · rw [upd_ne (Ne.symm hne), upd_same]
end
end EX2
set_option Elab.async false
set_option linter.all false
set_option maxRecDepth 100000
set_option maxHeartbeats 2000000
namespace EX2
open PySem PySem.Spec PyProof.Rows L2
/-- C(e, ..) -/
def tMkX (C : Addr) (n : Nat) (fs : List V → List (Str × V)) (ta : TA) : TE := fun σ H Q => ta σ H fun vs H1 => vs.length = n ∧ ∀ (a dx : Addr) (H' : Hp), H1 a = none → H1 dx = none → dx ≠ a → Evl.Ex H1 H' → H' a = some (exo a C (some dx)) → H' dx = some (exd dx (fs vs)) → Q (.ref a) H'
section
variable {X : Cx} {e : Expr} {es : List Expr} {ta : TA} {p pos : Pos}
theorem pe_mkx {x : Str} {C fI : Addr} {k n : Nat} {fd : FuncData} {ps : List Str} {fs : List V → List (Str × V)} (T : ExK X.K C) (iC : PySem.W.findIn X.K (.ref C) "__init__" = some (some (.ref fI))) (tI : PySem.W.typeIn X.K (.ref fI) = some (.type "function"))
    (F1 : FnOk X.prog X.w X.K X.mg X.base CX0 k fI fd ps (spX C n fs)) (hr : Room (k + 1) X.A) (hb : Binds X.K fd ps []) (hg : Gl X x) (hm : X.mg x = some (.ref C)) (hn : n ≤ 1000) (ha : PA X (e :: es) ta)
    (hdb : (x == ("__debug__" : Str)) = false := by decide) (he : starEach (e :: es) X.env = (false, eval e X.env) :: starEach es X.env := by rfl) (hpl : (backTo pos (starEach es X.env)).any (·.1) = false := by rfl) :
    PE X (.Call (.Name x p) (e :: es) [] pos) (tMkX C n fs ta) := by
  refine ⟨fun pins s σ H Q I h => ?_⟩
  refine wpAny_Call_Name_kw (ld_glob I hg hm ?_ hdb)
  refine PySem.W.callWith_K (h₀ := X.base) I.ok.mod.kin T.kC (thn (ha.run pos pins s σ H _ I h) fun us s1 ⟨vs, H1, I1, r1, hz, q1⟩ => ⟨I1.kIn, ?_⟩) he hpl
  show wpAny _ _ (call (.ref C) us) _ _ _
  obtain ⟨nm, Nn, qd, bs, bm, hdct, sn, sub, ab, col, dd, k0, k1, k2, k3, k5, hC, hT⟩ := PySem.W.excInit_of I1.kIn T.init
  obtain ⟨hp, g, dr, tk, os⟩ := s1
  have hsz : hp.objs.size ≤ hp.objs.size + 1 := Nat.le_succ _
  have hn1 : H1 (hp.objs.size + 1) = none := I1.hok.fresh hsz
  have kk : ∀ b o, hp.get? b = some o → ((hp.push (PySem.W.kdv_tup us)).push (PySem.HandSPX.excO C hp.objs.size)).get? b = some o := fun b o e => Heap.get?_push_of_some _ (Heap.get?_push_of_some _ e)
  have hget : ((hp.push (PySem.W.kdv_tup us)).push (PySem.HandSPX.excO C hp.objs.size)).get? (hp.objs.size + 1) = some (PySem.HandSPX.excO C hp.objs.size) := by heap_get
  have I2 : Inv X pins σ (upd H1 (hp.objs.size + 1) (exo (hp.objs.size + 1) C none)) ⟨(hp.push (PySem.W.kdv_tup us)).push (PySem.HandSPX.excO C hp.objs.size), g, dr, tk, os⟩ :=
    I1.laid (t' := tk) (a := hp.objs.size + 1) (o := exo (hp.objs.size + 1) C none) (h' := (hp.push (PySem.W.kdv_tup us)).push (PySem.HandSPX.excO C hp.objs.size)) kk hsz (exo_ok hget)
  have r2 : Vals (V.ref (hp.objs.size + 1) :: vs) (Value.ref (hp.objs.size + 1) :: us) := .cons rfl r1
  have hus : us.length ≤ sizeLine := by
    rw [← Paired.length r1, hz, sizeLine_eq]
    omega
  have hsp : spX C n fs (V.ref (hp.objs.size + 1) :: vs) (upd H1 (hp.objs.size + 1) (exo (hp.objs.size + 1) C none)) (fun v H2 => v = .non ∧ Q (.ref (hp.objs.size + 1)) H2) (fun _ _ _ => False) := by
    refine ⟨_, vs, rfl, hz, upd_same, fun H' dx k1 hd hne h1 h2 => ⟨rfl, ?_⟩⟩
    rw [upd_ne hne] at hd
    refine q1 _ dx H' hn1 hd hne (fun b o hb => ?_) h1 h2
    have hba : b ≠ hp.objs.size + 1 := ne_of_none hb hn1
    refine k1 b o hba ?_
    rw [upd_ne hba]
    exact hb
  have hlen := F1.len _ _ _ _ hsp
  have hbt := hb ⟨(hp.push (PySem.W.kdv_tup us)).push (PySem.HandSPX.excO C hp.objs.size), g, dr, tk, os⟩ (Value.ref (hp.objs.size + 1) :: us) I2.kIn (by rw [List.append_nil, ← r2.length]; exact hlen)
  rw [List.append_nil] at hbt
  refine wpAny_call (PySem.HandSPX.call_own F.excBase_Exception hT hC (PySem.W.looks_findIn I1.kIn iC) (fun self => PySem.W.bind_fn I1.kIn self tI) hus
    (codeAny_mono (F1.run _ X.stack _ _ ⟨Value.ref (hp.objs.size + 1) :: us, []⟩ (Value.ref (hp.objs.size + 1) :: us) _ _ (fun _ _ _ => False) (hr.make C us []) (I2.env0.make C us []) hbt r2 hsp) fun r s' hq' => ?_))
  cases r with
  | error er => exact False.elim hq'
  | ok fl =>
    cases fl with
    | ret u =>
      have hq2 : CE X.stack X.prog X.w _ _ _ u s' := hq'
      obtain ⟨v, H2, I3, rv, ev, q2⟩ := I2.after hq2
      subst ev
      exact ⟨rv, ⟨V.ref (hp.objs.size + 1), H2, I3, rfl, q2⟩⟩
    | next => exact False.elim hq'
    | brk => exact False.elim hq'
    | cont => exact False.elim hq'
/-! ### fields -/
/-- e.f, e an exception -/
def tXg (K : PySem.W.Frag) (f : Str) (te : TE) : TE := fun σ H Q => te σ H fun x H1 => ∃ (a C dx : Addr) (fs : List (Str × V)) (v : V), x = .ref a ∧ XfC K C ∧ PySem.W.findIn K (.ref C) f = some none ∧ H1 a = some (exo a C (some dx)) ∧ H1 dx = some (exd dx fs) ∧ fs.lookup f = some v ∧ Q v H1
theorem pe_xg {f : Str} {te : TE} (he : PE X e te) (hb : attributeBase e f X.env (eval e X.env) = eval e X.env := by rfl) : PE X (.Attribute e f pos) (tXg X.K f te) := by
  refine ⟨fun pins s σ H Q I h => ?_⟩
  refine attr_of hb (thn (he.run pins s σ H _ I h) fun u s1 hh => ?_)
  obtain ⟨x, H1, I1, rx, a, C, dx, fs, v, ex, T, hno, ea, ed, l, q⟩ := hh
  subst ex
  obtain rfl : u = Value.ref a := rx
  obtain ⟨t1, ho⟩ := exo_at I1.hok ea
  obtain ⟨mA, hns, rel⟩ := exd_at I1.hok ed
  obtain ⟨od, hod, hl⟩ := lookIn_ns hns
  obtain ⟨u, hu, ru⟩ := RelO.some_of (v := v) (o := mA f) (by rw [← l]; exact rel f)
  have J : PySem.W.InstAt s1.heap a { cls := .ref C, dict := some dx, data := .fields #[.ref t1, .none, .none, .none, .bool false, .none] } C (some od) := ⟨ho, rfl, rfl, hod⟩
  exact HandSPX.exc_get I1.kIn J T.ga T.gg T.exC (PySem.W.findObj_own T.hdC hno rfl (by rw [hl, hu])) (handed_of ru) ⟨v, H1, I1.tok _, ru, q⟩
end
end EX2
set_option Elab.async false
set_option linter.all false
set_option maxRecDepth 100000
set_option maxHeartbeats 4000000
namespace PySem.W
open PySem PySem.Spec PySem.Calls PyProof.Rows
section
variable {prog : Program} {w : World} {A : Around} {E : Value → Shared → Prop} {s : Shared} {K : Frag} {x D : Addr} {ox : Obj} {od : Option Obj}
theorem findObj_dataO {C : Addr} {name : Str} {a g : Value} (hc : (clsIn K C).isSome = true) (ha : findIn K (.ref C) name = some (some a)) (hg : specialIn K a "__get__" = some (some g)) (ht : takesIn K a = some true) : findObj K C od name = some (.bind g a) := by
  obtain ⟨cd, hc⟩ := Option.isSome_iff_exists.mp hc
  unfold findObj
  rw [hc, Option.bind_some, ha, Option.bind_some]
  simp [hg, ht]
theorem kin_classD {Q : Option Value → Shared → Prop} (hga : findIn K (.ref D) "__getattribute__" = some (some (.builtin "BaseException.__getattribute__"))) (hgt : findIn K (.ref D) "__getattr__" = some none) (hsub : subIn K (.ref D) (.type "BaseException") = some true)
    (hdct : hasDictIn K D = true) (ha : findIn K (.ref D) "__class__" = some (some (.builtin "object.__class__")))
    (hn : specialIn K (.builtin "object.__class__") "__get__" = some (some (.builtin "getset_descriptor.__get__"))) (htk : takesIn K (.builtin "object.__class__") = some true) (hm : mroIn K D (.type "object") = some true)
    (X : K.In s.heap) (I : InstAt s.heap x ox D od) (h : Q (some (.ref D)) { s with toks := s.toks + 1 }) : wpAny (model prog w) A (getAttr? (.ref x) "__class__") Q E s := by
  have hf : findObj K D od "__class__" = some (.bind (.builtin "getset_descriptor.__get__") (.builtin "object.__class__")) := findObj_dataO (by obtain ⟨cd, hc, _⟩ := any_some hdct; rw [hc]; rfl) ha hn htk
  obtain ⟨hp, g, d, t, os⟩ := s
  have L0 := I.type (M := model prog w)
  have L1 := looks_findIn (M := model prog w) X hga
  have L2 := looks_findIn (M := model prog w) X hgt
  have L3 := looks_find (M := model prog w) X I hf
  have sub : Looks (model prog w) hp (isInstance (.ref x) (.type "BaseException")) true := L0.andThen (looks_subIn X hsub)
  have hx0 : (false && onTheHeap (Value.builtin "BaseException.__getattribute__")) = false := rfl
  have hx2 : (Value.builtin "BaseException.__getattribute__" == Value.builtin "object.__getattribute__") = false := by decide +kernel
  have hx1 : (onTheHeap (Value.ref D) && Value.builtin "BaseException.__getattribute__" == Value.builtin "object.__getattribute__") = false := by rw [hx2]; rfl
  unfold getAttr? getAttrBy? getAttrBy
  refine wpAny_bind (wpAny_mkText (wpAny_bind (wpAny_attempt (wpAny_holding (wpAny_bind (L0.at (wpAny_bind (L1.at ?_))))))))
  show wpAny _ _ (if (onTheHeap (Value.ref D) && Value.builtin "BaseException.__getattribute__" == Value.builtin "object.__getattribute__") = true then _ else _) _ _ _
  rw [hx1, if_neg Bool.false_ne_true]
  unfold getAttrByItsOwn hookBefore
  refine wpAny_bind ?_
  rw [if_pos (show onTheHeap (Value.ref D) = true from rfl)]
  refine L2.at ?_
  refine wpAny_bind (wpAny_attempt (wpAny_holding ?_))
  unfold callGetattribute
  rw [hx0, if_neg Bool.false_ne_true]
  unfold boundAndCalled
  rw [PySem.F.excAttr_ValueError.ga.bind (.ref x)]
  refine wpAny_bind (wpAny_pure ?_)
  show wpAny _ _ (call (.builtin "BaseException.__getattribute__") [.ref x, .str "__class__" t]) _ _ _
  refine wpAny_call (codeAny_call_builtin PySem.F.excAttr_ValueError.ga.plain PySem.F.entry_bexc_ga ?_)
  refine @check_slot (model prog w) _ _ ⟨hp, g, d, t + 1, os⟩ "BaseException.__getattribute__" "BaseException" "__getattribute__" (.ref x) [.str "__class__" t] [] _ (by decide +kernel) (by decide +kernel) sub (PySem.F.args_bexc_ga (.ref x) (.str "__class__" t)) ?_
  unfold Builtin.«object.__getattribute__»
  refine wpAny_bind (wpAny_of_eq (a := ((Value.ref x : Value), [Value.str "__class__" t])) (by first | rfl | (simp only [slotArgs]; rfl)) ?_)
  refine wpAny_bind (wpAny_pure (wpAny_bind (L0.at (wpAny_bind (L3.at ?_)))))
  show wpAny _ _ (holding [Value.builtin "object.__class__"] (call (.builtin "getset_descriptor.__get__") [.builtin "object.__class__", .ref x, .ref D]) >>= ret) _ _ _
  refine wpAny_bind (wpAny_holding (wpAny_call (class_get (s := ⟨hp, g, d, t + 1, os⟩) (ox := ox) (od := od) X I hm ?_)))
  refine wpAny_pure ?_
  show wpAny _ _ (handedOut (.ref D)) _ _ _
  rw [handedOut_of (v := .ref D) rfl]
  first
    | exact wpAny_pure (wpAny_pure h)
    | exact wpAny_pure h
    | exact wpAny_pure (wpAny_bind (wpAny_pure (wpAny_pure h)))
theorem kitx_excD (hga : findIn K (.ref D) "__getattribute__" = some (some (.builtin "BaseException.__getattribute__"))) (hgt : findIn K (.ref D) "__getattr__" = some none) (hsub : subIn K (.ref D) (.type "BaseException") = some true) (hdct : hasDictIn K D = true) (ha : findIn K (.ref D) "__class__" = some (some (.builtin "object.__class__")))
    (hn : specialIn K (.builtin "object.__class__") "__get__" = some (some (.builtin "getset_descriptor.__get__"))) (htk : takesIn K (.builtin "object.__class__") = some true) (hm : mroIn K D (.type "object") = some true) :
    KitX K (.ref x) (.ref D) (fun h => InstAt h x ox D od) where
  ty := fun _ _ _ I => I.type
  it := fun _ _ X _ => by
    obtain ⟨cdD, hcD, _⟩ := any_some hdct
    unfold clsIn at hcD
    split at hcD
    · rename_i c' d' cd' sl' ho
      intro A' Q' E' s' k q
      unfold isType loadHead
      exact wpAny_bind (wpAny_loadPart (k _ _ (X _ _ ho)) (wpAny_pure q))
    · cases hcD
  ne := fun h tp dd its n sl X htp => by
    obtain ⟨cdD, hcD, _⟩ := any_some hdct
    refine Bool.eq_false_iff.mpr fun q => ?_
    have e : D = tp := Value.ref.inj (beq_iff_eq.mp q)
    subst e
    unfold clsIn at hcD
    split at hcD
    · rename_i c' d' cd' sl' ho
      have z := (X _ _ ho).symm.trans htp
      cases z
    · cases hcD
  ca := fun X I k => kin_classD hga hgt hsub hdct ha hn htk hm X I k
end
end PySem.W
namespace EX2
open PySem PySem.Spec PyProof.Rows L2
/-- an exception that is held as a value -/
def ExAt (H : Hp) (a C : Addr) (fs : List (Str × V)) : Prop := ∃ dx, H a = some (exo a C (some dx)) ∧ H dx = some (exd dx fs)
theorem ExAt.ext {H H' : Hp} {a C : Addr} {fs : List (Str × V)} (h : ExAt H a C fs) (e : Evl.Ex H H') : ExAt H' a C fs := by
  obtain ⟨dx, h1, h2⟩ := h
  exact ⟨dx, e _ _ h1, e _ _ h2⟩
theorem ExAt.inst {X : Cx} {pins : List (Addr × Obj)} {σ : L2.St} {H : Hp} {s : Shared} {a C : Addr} {fs : List (Str × V)} (I : Inv X pins σ H s) (h : ExAt H a C fs) : ∃ ox od, PySem.W.InstAt s.heap a ox C (some od) := by
  obtain ⟨dx, ea, ed⟩ := h
  obtain ⟨t1, ho⟩ := exo_at I.hok ea
  obtain ⟨mA, hns, rel⟩ := exd_at I.hok ed
  obtain ⟨od, hod, hl⟩ := lookIn_ns hns
  exact ⟨{ cls := .ref C, dict := some dx, data := .fields #[.ref t1, .none, .none, .none, .bool false, .none] }, od, ho, rfl, rfl, hod⟩
/-- isinstance(e, c) -/
def rIsX (K : PySem.W.Frag) : List V → Hp → VK → Prop := fun xs H Q => ∃ (a C : Addr) (fs : List (Str × V)) (c : V) (u : Value) (b : Bool), xs = [.ref a, c] ∧ ClsV c u ∧ ExAt H a C fs ∧ ExcC K C ∧ PySem.W.kitOne K (.ref C) u = some b ∧ Q (.bl b) H
/-- isinstance(e, (c1, c2, ..)) -/
def rIsXT (K : PySem.W.Frag) : List V → Hp → VK → Prop := fun xs H Q => ∃ (a C : Addr) (fs : List (Str × V)) (tp : Addr) (cs : List V) (us : List Value) (b : Bool), xs = [.ref a, .ref tp] ∧ H tp = some (.tup cs) ∧ Paired ClsV cs us ∧ ExAt H a C fs ∧ ExcC K C ∧ PySem.W.kitAny K (.ref C) us = some b ∧ Q (.bl b) H
section
variable {X : Cx}
theorem call_isX : CallR X (.builtin "isinstance") (rIsX X.K) := by
  intro pins s σ H xs us Q I r h
  obtain ⟨a, C, fs, c, u, b, rfl, k, ha, T, e, q⟩ := h
  obtain ⟨u1, u2, rfl, r1, r2⟩ := vals2 r
  have e2 := k.eq r2
  subst e2
  obtain rfl : u1 = Value.ref a := r1
  obtain ⟨ox, od, J⟩ := ha.inst I
  exact PySem.W.kia_one (PySem.W.kitx_excD T.hg T.hk T.hs T.hd T.ha T.hn T.ht T.hm) I.kIn J e (fun z => nomatch z) fun tk => ⟨.bl b, H, I.tok tk, rfl, q⟩
theorem call_isXT : CallR X (.builtin "isinstance") (rIsXT X.K) := by
  intro pins s σ H xs us Q I r h
  obtain ⟨a, C, fs, tp, cs, ws, b, rfl, et, k, ha, T, e, q⟩ := h
  obtain ⟨u1, u2, rfl, r1, r2⟩ := vals2 r
  obtain rfl : u1 = Value.ref a := r1
  obtain rfl : u2 = Value.ref tp := r2
  obtain ⟨ox, od, J⟩ := ha.inst I
  obtain ⟨_, its, rv, o, h1, h2, n, h3⟩ := (show ObjOk X.prog X.w H s.heap tp (.tup cs) from I.hok tp _ et)
  have e3 := ClsV.all k rv
  subst e3
  obtain ⟨oc, od2, dt, sl⟩ := o
  simp only at h2 h3
  subst h2 h3
  exact PySem.W.kia_tup (PySem.W.kitx_excD T.hg T.hk T.hs T.hd T.ha T.hn T.ht T.hm) I.kIn J h1 e (fun z => nomatch z) fun tk => ⟨.bl b, H, I.tok tk, rfl, q⟩
end
/-! ### what a value is, told by the heap: data with dicts of ints and texts -/
def kD : Key → PyData
  | .inl i => .int i
  | .inr x => .str x
mutual
inductive Dq (H : Hp) : V → PyData → Prop
  | non : Dq H .non .none
  | bl (b : Bool) : Dq H (.bl b) (.bool b)
  | int (i : Int) : Dq H (.int i) (.int i)
  | str (x : Str) : Dq H (.str x) (.str x)
  | lst {a : Addr} {xs : List V} {ds : List PyData} (e : H a = some (.lst xs)) (h : DqAll H xs ds) : Dq H (.ref a) (.list ds)
  | tup {a : Addr} {xs : List V} {ds : List PyData} (e : H a = some (.tup xs)) (h : DqAll H xs ds) : Dq H (.ref a) (.tuple ds)
  | dk {a : Addr} {kvs : List (Key × V)} {ds : List PyData} (e : H a = some (.dK kvs)) (h : DqAll H (kvs.map (·.2)) ds) : Dq H (.ref a) (.dict ((kvs.map fun p => kD p.1).zip ds))
inductive DqAll (H : Hp) : List V → List PyData → Prop
  | nil : DqAll H [] []
  | cons {x : V} {xs : List V} {d : PyData} {ds : List PyData} (h : Dq H x d) (t : DqAll H xs ds) : DqAll H (x :: xs) (d :: ds)
end
mutual
theorem Dq.ext {H H' : Hp} (e : Evl.Ex H H') : ∀ {x : V} {d : PyData}, Dq H x d → Dq H' x d
  | _, _, .non => .non
  | _, _, .bl b => .bl b
  | _, _, .int i => .int i
  | _, _, .str x => .str x
  | _, _, .lst q h => .lst (e _ _ q) (DqAll.ext e h)
  | _, _, .tup q h => .tup (e _ _ q) (DqAll.ext e h)
  | _, _, .dk q h => .dk (e _ _ q) (DqAll.ext e h)
theorem DqAll.ext {H H' : Hp} (e : Evl.Ex H H') : ∀ {xs : List V} {ds : List PyData}, DqAll H xs ds → DqAll H' xs ds
  | _, _, .nil => .nil
  | _, _, .cons h t => .cons (Dq.ext e h) (DqAll.ext e t)
end
section
variable {P : Program} {w : World} {H : Hp} {h : Heap}
theorem keys_reads {es : List DictEntry} {vs : List (Key × Value)} (p : PySem.Pairs (mixKind P w) es vs) : ReadsAll h (es.map (·.key)) (vs.map fun q => kD q.1) [] := by
  induction p with
  | nil => exact .nil
  | @cons e kv es kvs hk _ _ ih =>
    refine .cons (as := []) (bs := []) ?_ ih
    show Reads h e.key (kD kv.1) []
    rcases keyIs_shape hk with ⟨i, t, e1, e2⟩ | ⟨x, t, e1, e2⟩
    · rw [e2, e1]
      exact .int i t
    · rw [e2, e1]
      exact .str x t
theorem vals_pairs {es : List DictEntry} {vs : List (Key × Value)} (p : PySem.Pairs (mixKind P w) es vs) : es.map (·.val) = vs.map (·.2) := by
  induction p with
  | nil => rfl
  | cons hk hv _ ih => simp [ih, hv]
theorem kv_vals {kvs : List (Key × V)} {vs : List (Key × Value)} (r : KV kvs vs) : L2.Vals (kvs.map (·.2)) (vs.map (·.2)) ∧ (kvs.map fun p => kD p.1) = vs.map fun p => kD p.1 := by
  unfold KV at r
  induction r with
  | nil => exact ⟨.nil, rfl⟩
  | cons h _ ih => exact ⟨.cons h.2 ih.1, by simp only [List.map_cons, ih.2, h.1]⟩
theorem DqAll.length {xs : List V} {ds : List PyData} (q : DqAll H xs ds) : xs.length = ds.length := by
  induction xs generalizing ds with
  | nil => cases q; rfl
  | cons x xs ih =>
    cases q with
    | cons _ t => simp [ih t]
/-- sys.modules is a dict -/
def SysD (h : Heap) : Prop := ∃ o es n, h.get? sysModules = some o ∧ o.data = .dict es n
mutual
theorem Dq.reads (ok : HOk P w H h) (sd : SysD h) : ∀ {x : V} {d : PyData} (u : Value), Dq H x d → L2.RelV x u → ∃ as, Reads h u d as ∧ sysModules ∉ as
  | _, _, u, .non, r => by
    obtain rfl : u = Value.none := r
    exact ⟨_, .none, by simp⟩
  | _, _, u, .bl b, r => by
    obtain rfl : u = Value.bool b := r
    exact ⟨_, .bool b, by simp⟩
  | _, _, u, .int i, r => by
    obtain ⟨t, rfl⟩ := r
    exact ⟨_, .int i t, by simp⟩
  | _, _, u, .str x, r => by
    obtain ⟨t, rfl⟩ := r
    exact ⟨_, .str x t, by simp⟩
  | _, _, u, .lst (a := a) (xs := xs) e q, r => by
    obtain rfl : u = Value.ref a := r
    obtain ⟨hz, its, n, rv, ho⟩ := (show ObjOk P w H h a (.lst xs) from ok a _ e)
    obtain ⟨as, rs, hn⟩ := DqAll.reads ok sd its q rv
    refine ⟨_, .list ho rfl rfl rs, fun z => ?_⟩
    rcases List.mem_cons.mp z with z | z
    · obtain ⟨o, es, m, h1, h2⟩ := sd
      rw [z, ho] at h1
      cases h1
      cases h2
    · exact hn z
  | _, _, u, .tup (a := a) (xs := xs) e q, r => by
    obtain rfl : u = Value.ref a := r
    obtain ⟨hz, its, rv, o, h1, h2, n, h3⟩ := (show ObjOk P w H h a (.tup xs) from ok a _ e)
    obtain ⟨as, rs, hn⟩ := DqAll.reads ok sd its q rv
    exact ⟨_, .tuple h1 h2 h3 rs, hn⟩
  | _, _, u, .dk (a := a) (kvs := kvs) (ds := ds) e q, r => by
    obtain rfl : u = Value.ref a := r
    obtain ⟨hz, hs, vs, rk, o, es, ep, h1, h2, h3, _, h5, _⟩ := (show ObjOk P w H h a (.dK kvs) from ok a _ e)
    obtain ⟨rv, ek⟩ := kv_vals rk
    obtain ⟨as, rs, hn⟩ := DqAll.reads ok sd _ q rv
    have hl : (kvs.map fun p => kD p.1).length = ds.length := by
      have := DqAll.length q
      rw [List.length_map] at this
      rw [List.length_map]
      exact this
    refine ⟨_, .dict h1 h2.1 h3 (as := []) (bs := as) ?_ ?_, fun z => ?_⟩
    · rw [List.map_fst_zip (Nat.le_of_eq hl), ek]
      exact keys_reads h5
    · rw [List.map_snd_zip (Nat.le_of_eq hl.symm), vals_pairs h5]
      exact rs
    · rcases List.mem_cons.mp (show sysModules ∈ a :: as from z) with z | z
      · rw [z] at hs
        simp at hs
      · exact hn z
theorem DqAll.reads (ok : HOk P w H h) (sd : SysD h) : ∀ {xs : List V} {ds : List PyData} (us : List Value), DqAll H xs ds → L2.Vals xs us → ∃ as, ReadsAll h us ds as ∧ sysModules ∉ as
  | _, _, _, .nil, .nil => ⟨_, .nil, by simp⟩
  | _, _, _, .cons (d := d) q t, .cons r rs => by
    obtain ⟨a1, h1, n1⟩ := Dq.reads ok sd _ q r
    obtain ⟨a2, h2, n2⟩ := DqAll.reads ok sd _ t rs
    exact ⟨_, .cons h1 h2, by rw [List.mem_append]; exact fun z => z.elim n1 n2⟩
end
end
end EX2
set_option Elab.async false
set_option linter.all false
set_option maxRecDepth 100000
set_option maxHeartbeats 4000000
namespace EX2
open PySem PySem.Spec PyProof.Rows L2
/-! ### repr of data; the stack holds no repr -/
def rReprD : List V → Hp → VK → Prop := fun xs H Q => ∃ (x : V) (d : PyData), xs = [x] ∧ Dq H x d ∧ d.showable = true ∧ d.shown.length ≤ sizeLine ∧ d.depth ≤ 60 ∧ Q (.str d.shown) H
section
variable {X : Cx}
theorem call_reprD (hg : X.A.guards = some []) (hu : X.A.units + 65 < cLine) (sd : SysD X.base) : CallR X (.builtin "repr") rReprD := by
  intro pins s σ H xs us Q I r h
  obtain ⟨x, d, rfl, hd, hs, hz, hdp, q⟩ := h
  obtain ⟨u, rfl, r1⟩ := vals1 r
  have sd1 : SysD s.heap := by
    obtain ⟨o, es, n, h1, h2⟩ := sd
    exact ⟨o, es, n, I.bk _ _ h1, h2⟩
  cases hd with
  | non =>
    obtain rfl : u = Value.none := r1
    simp only [PyData.shown] at q
    exact PySem.P.repr_of_none ⟨.str _, H, I.tok _, ⟨_, rfl⟩, q⟩
  | bl b =>
    obtain rfl : u = Value.bool b := r1
    simp only [PyData.shown] at q
    exact PySem.P.repr_of_bool ⟨.str _, H, I.tok _, ⟨_, rfl⟩, q⟩
  | int i =>
    obtain ⟨t, rfl⟩ := r1
    simp only [PyData.shown] at q
    simp only [PyData.showable, decide_eq_true_eq] at hs
    exact PySem.P.repr_of_int hs ⟨.str _, H, I.tok _, ⟨_, rfl⟩, q⟩
  | str y =>
    obtain ⟨t, rfl⟩ := r1
    simp only [PyData.shown] at q hz
    exact PySem.P.repr_of_str ⟨.str _, H, I.tok _, ⟨_, rfl⟩, q⟩ hz
  | @lst a xs ds e hq =>
    obtain ⟨as, rd, hn⟩ := Dq.reads I.hok sd1 u (.lst e hq) r1
    obtain rfl : u = Value.ref a := r1
    exact repr_of_reads' rd hs (fun _ => hn) hg (by omega) (fun _ _ e => e) (fun h' u tk k => ⟨.str _, H, I.kept (t' := tk) k, ⟨_, rfl⟩, q⟩) hz
  | @tup a xs ds e hq =>
    obtain ⟨as, rd, hn⟩ := Dq.reads I.hok sd1 u (.tup e hq) r1
    obtain rfl : u = Value.ref a := r1
    exact repr_of_reads' rd hs (fun _ => hn) hg (by omega) (fun _ _ e => e) (fun h' u tk k => ⟨.str _, H, I.kept (t' := tk) k, ⟨_, rfl⟩, q⟩) hz
  | @dk a kvs ds e hq =>
    obtain ⟨as, rd, hn⟩ := Dq.reads I.hok sd1 u (.dk e hq) r1
    obtain rfl : u = Value.ref a := r1
    exact repr_of_reads' rd hs (fun _ => hn) hg (by omega) (fun _ _ e => e) (fun h' u tk k => ⟨.str _, H, I.kept (t' := tk) k, ⟨_, rfl⟩, q⟩) hz
end
/-! ### promises where no repr runs around -/
structure FnOkG (P : Program) (w : World) (K : PySem.W.Frag) (mg : Str → Option Value) (base : Heap) (k : Nat) (f : Addr) (fd : FuncData) (ps : List Str) (sp : Sp) : Prop where
  len : ∀ vs H Q E, sp vs H Q E → vs.length = ps.length
  run : ∀ (A : Around) (outer : List Env) (s : Shared) (H : Hp) (args : Args) (us : List Value) (vs : List V) (Q : VK) (E : XK), A.guards = some [] → Room k A → Env0 P w K mg base A outer s H → BindsTo s fd args (ps.zip us) → Vals vs us → sp vs H Q E →
    codeAny (model P w) A (.call (.ref f) args) (CR CX0 outer P w H s Q E) s
theorem guards_deeper {A : Around} {env : Env} : (A.deeper env).guards = A.guards := by
  obtain ⟨hd, d, fr, gs, u⟩ := A
  cases gs <;> rfl
section
variable {P : Program} {w : World} {K : PySem.W.Frag} {mg : Str → Option Value} {base : Heap}
/-- THE RULE for a def (its body may ask for repr) -/
theorem okG {x qual : Str} {params : Arguments} {body : List Stmt} {scope : Scope} {dvs : List V} {kws : List (Str × V)} {f : Addr} {fd : FuncData} {N ps : List Str} {k : Nat} {sp : Sp} (F : FunD K x qual params body scope dvs kws f fd) (S : FnScope N ps scope) (len : ∀ vs H Q E, sp vs H Q E → vs.length = ps.length)
    (hbody : ∀ (cdv : Value) (A : Around) (outer : List Env) (s : Shared) (H : Hp) (vs : List V) (Q : VK) (E : XK), A.guards = some [] → Room k (A.deeper (envOfC qual scope s.heap.objs.size f cdv)) → sp vs H Q E →
      ∃ t, PSs (cxOf CX0 P w K mg base N qual scope f cdv A outer s H E) body t ∧ t { nx := fun _ H' => Q .non H', rt := Q } (start N vs) H) : FnOkG P w K mg base (k + 1) f fd ps sp := by
  refine ⟨len, fun A outer s H args us vs Q E hg hr e0 hb r hsp => ?_⟩
  obtain ⟨oc, od, dV, kV, doc, pm, an, cdv, ct, osl, rfl, lk, hcd, _, _⟩ := F.ex
  have hl := len _ _ _ _ hsp
  have KX : K.In s.heap := e0.mod.kin.keeps fun b o e => (e0.bs b o e).1
  have lim : s.heap.NoLimit := e0.mod.nolimit.keeps fun b o e => (e0.bs b o e).1
  have hkind : ∀ y ∈ ps.zip us, scope.names.lookup y.1 = some .local ∨ (scope.names.lookup y.1 = some .cell ∧ ((cellsFrom (s.heap.objs.size + 1) scope.names []).lookup y.1).isSome = true) := fun ⟨n, v⟩ hy => by
    rcases S.par n (List.of_mem_zip hy).1 with q | q
    · exact .inl q
    · exact .inr ⟨q, PySem.W.cellsFrom_some _ _ _ (.inl q)⟩
  refine codeAny_call_function hr.depth (KX _ _ lk) rfl S.co S.gen rfl (PySem.W.codeRec_of KX hcd) (hb _ _ _ _ ?_)
  refine wpAny_newFunctionEnv_cells S.kind hkind fun env he s1 x => ?_
  subst he
  refine ⟨lim.keeps x.toInCall.keep, codeAny_func ?_⟩
  obtain ⟨t, ht, hq⟩ := hbody cdv A outer s H vs Q E hg (hr.deeper _) hsp
  have I : Inv (cxOf CX0 P w K mg base N qual scope f cdv A outer s H E) [] (start N vs) H s1 := inv_start S hr.hd e0 hl r x
  refine wpAny_mono (ht.run [] s1 (start N vs) H _ I hq) (fun fl s' hs => ?_) fun e s' hs => hs
  have fin : ∀ {σ' : L2.St} {H' : Hp} {v : V} {u : Value}, Inv (cxOf CX0 P w K mg base N qual scope f cdv A outer s H E) [] σ' H' s' → RelV v u → Q v H' → CE outer P w H s Q u s' :=
    fun {σ' H' v u} J rv q => ⟨v, H', J.os, J.bare, J.base, J.hok, rv, q⟩
  cases fl with
  | ret u =>
    obtain ⟨v, σ', H', J, rv, q⟩ := hs
    exact fin J rv q
  | next =>
    obtain ⟨σ', H', J, q⟩ := hs
    exact fin (v := V.non) (u := Value.none) J rfl q
  | brk =>
    obtain ⟨_, _, _, q⟩ := hs
    exact False.elim q
  | cont =>
    obtain ⟨_, _, _, q⟩ := hs
    exact False.elim q
end
section
variable {X : Cx} {k : Nat} {f : Addr} {fd : FuncData} {ps : List Str} {sp : Sp} {x : Str} {p pos : Pos} {e : Expr} {es : List Expr} {t : TA}
theorem pe_callG (F : FnOkG X.prog X.w X.K X.mg X.base k f fd ps sp) (hG : X.A.guards = some []) (hr : Room k X.A) (hg : Gl X x) (hm : X.mg x = some (.ref f)) (hk : PySem.W.keepIn X.K (.ref f) = true) (hb : Binds X.K fd ps [])
    (ha : PA X (e :: es) t) (hdb : (x == ("__debug__" : Str)) = false := by decide) (he : starEach (e :: es) X.env = (false, eval e X.env) :: starEach es X.env := by rfl) (hpl : (backTo pos (starEach es X.env)).any (·.1) = false := by rfl) :
    PE X (.Call (.Name x p) (e :: es) [] pos) (tCall sp [] E0 t) := by
  refine ⟨fun pins s σ H Q I h => ?_⟩
  refine wpAny_Call_Name_kw (ld_glob I hg hm ?_ hdb)
  refine PySem.W.callWith_K (h₀ := X.base) I.ok.mod.kin hk (thn (ha.run pos pins s σ H _ I h) fun us s1 ⟨vs, H1, I1, r, q⟩ => ⟨I1.kIn, ?_⟩) he hpl
  have q0 : sp (vs ++ []) H1 Q E0 := q
  rw [List.append_nil] at q0
  have hl : us.length = ps.length := by rw [← r.length]; exact F.len _ _ _ _ q0
  have hbt := hb s1 us I1.kIn (by rw [List.append_nil]; exact hl)
  rw [List.append_nil] at hbt
  refine wpAny_call (codeAny_mono (F.run X.A X.stack s1 H1 ⟨us, []⟩ us vs Q E0 hG hr I1.env0 hbt r q0) fun r s' hq => ?_)
  cases r with
  | error e => exact False.elim hq
  | ok fl =>
    cases fl with
    | ret u => exact I1.after hq
    | next => exact False.elim hq
    | brk => exact False.elim hq
    | cont => exact False.elim hq
end
section
variable {P : Program} {w : World} {K : PySem.W.Frag} {mg mb : Str → Option Value} {k : Nat} {fa a : Addr} {fd : FuncData} {x : Str} {sp : Sp} {s₁ : Shared} {vs : List Value} {ns : List Int}
/-- the law called, from an abstract heap that tracks nothing but the script -/
theorem law_coreG (KX : K.In s₁.heap) (hns : s₁.heap.Ns mainGlobals mg) (hb : s₁.heap.Ns builtinsNs mb) (hbb : ∀ x : Str, x ≠ "__name__" → mb x = bootBuiltins x) (hlim : s₁.heap.NoLimit) (hg : s₁.gens = #[])
    (ha : s₁.heap.get? a = some { cls := .type "list", data := .seq vs.toArray }) (hr : Room k callerA)
    (F : ∀ base : Heap, K.In base → base.Ns mainGlobals mg → FnOkG P w K mg base k fa fd [x] sp) (hbind : ∀ (s : Shared) (u : Value), BindsTo s fd ⟨[u], []⟩ [(x, u)])
    (hsp : ∀ H : Hp, Only H → SqL K H a (ns.map V.int) → sp [.ref a] H (fun v _ => v = .bl true) fun _ _ _ => False)
    (H : Hp) (hO : Only H) (hS : SqL K H a (ns.map V.int)) (hok : HOk P w H s₁.heap) (hA : ∀ b, H b ≠ none → b = a) (hK : H a ≠ none → K.lookup a = none) :
    codeAny (model P w) callerA (.call (.ref fa) ⟨[.ref a], []⟩) (fun r s' => r = .ok (.ret (.bool true)) ∧ OldK s₁.heap s'.heap ∧ s'.os = s₁.os ∧ AllBare s'.gens) s₁ := by
  have only : ∀ {b : Addr}, (H b = none → False) → b = a := fun {b} z => hA b fun q => z q
  have free : ∀ {b : Addr} {o : Obj}, s₁.heap.get? b = some o → (∀ vs n, o.data ≠ .seq vs n) → H b = none := fun {b o} e d => Classical.byContradiction fun z => by
    have eb := only (b := b) z
    rw [eb, ha] at e
    cases e
    exact d _ _ rfl
  have names : ∀ {b : Addr} {m : Str → Option Value}, s₁.heap.Ns b m → (hidT s₁.heap H).Ns b m := fun {b m} ⟨o, es, ep, e, d, r⟩ => ⟨o, es, ep, hidT_get e (free e fun vs n q => by rw [d] at q; cases q), d, r⟩
  have kin : K.In (hidT s₁.heap H) := fun b o e => hidT_get (KX b o e) (Classical.byContradiction fun z => by
    have eb := only (b := b) z
    rw [eb] at e z
    rw [hK z] at e
    cases e)
  have M : Mod K mg (hidT s₁.heap H) := ⟨kin, names hns, ⟨mb, names hb, hbb⟩, let ⟨mc, h1, h2⟩ := hlim; ⟨mc, names h1, h2⟩⟩
  have e0 : Env0 P w K mg (hidT s₁.heap H) callerA [] s₁ H := ⟨rfl, M, fun b o e => of_hidT e, Nat.le_of_eq (hidT_size _ _), trivial, fun b hb => absurd (show b ∈ ([] : List Addr) from hb) (by simp), hok, .of_eq hg⟩
  refine codeAny_mono ((F _ kin (names hns)).run callerA [] s₁ H ⟨[.ref a], []⟩ [.ref a] [.ref a] _ _ rfl hr e0 (hbind s₁ (.ref a)) (.cons rfl .nil) (hsp H hO hS)) fun r s' h => ?_
  match r, h with
  | .error e, h => exact False.elim h
  | .ok (.ret u), h =>
    obtain ⟨v, H', os, bare, un, hok', r', q⟩ := h
    obtain rfl : v = .bl true := q
    obtain rfl : u = Value.bool true := r'
    refine ⟨rfl, OldK.of_keep fun b o e => ?_, os, bare⟩
    rcases hO b with z | ⟨ob, xs, z⟩
    · exact un.keep b o e z (fun z => absurd (show b ∈ ([] : List Addr) from z) (by simp)) (by simp)
    · obtain ⟨e1, _⟩ := hok b _ z
      obtain ⟨e2, _⟩ := hok' b _ (un.frzs b ob _ z)
      rw [e] at e1
      cases e1
      exact e2
theorem law_callG (KX : K.In s₁.heap) (hns : s₁.heap.Ns mainGlobals mg) (hb : s₁.heap.Ns builtinsNs mb) (hbb : ∀ x : Str, x ≠ "__name__" → mb x = bootBuiltins x) (hlim : s₁.heap.NoLimit) (hg : s₁.gens = #[])
    (ha : s₁.heap.get? a = some { cls := .type "list", data := .seq vs.toArray }) (hi : IntsAre vs ns) (hl : ns.length ≤ sizeLine) (hr : Room k callerA)
    (F : ∀ base : Heap, K.In base → base.Ns mainGlobals mg → FnOkG P w K mg base k fa fd [x] sp) (hbind : ∀ (s : Shared) (u : Value), BindsTo s fd ⟨[u], []⟩ [(x, u)])
    (hsp : ∀ H : Hp, Only H → SqL K H a (ns.map V.int) → sp [.ref a] H (fun v _ => v = .bl true) fun _ _ _ => False) :
    codeAny (model P w) callerA (.call (.ref fa) ⟨[.ref a], []⟩) (fun r s' => r = .ok (.ret (.bool true)) ∧ OldK s₁.heap s'.heap ∧ s'.os = s₁.os ∧ AllBare s'.gens) s₁ := by
  have rv := vals_ints hi
  cases hk : K.lookup a with
  | some o =>
    have e := KX a o hk
    rw [ha] at e
    cases e
    exact law_coreG KX hns hb hbb hlim hg ha hr F hbind hsp (fun _ => none) (fun _ => .inl rfl) (.inr ⟨_, vs.toArray, _, hk, rfl, rfl, rfl, by rw [List.size_toArray, hi.length]; exact hl, by simpa using rv⟩) (fun b u z => nomatch (show (none : Option HO) = some u from z)) (fun b z => absurd rfl z) fun z => absurd rfl z
  | none =>
    refine law_coreG KX hns hb hbb hlim hg ha hr F hbind hsp (fun b => if b = a then some (.frz { cls := .type "list", data := .seq vs.toArray } (.lst (ns.map V.int))) else none) (fun b => ?_) (.inl (.inr ⟨{ cls := .type "list", data := .seq vs.toArray }, if_pos rfl⟩)) (fun b u z => ?_) (fun b z => ?_) fun _ => hk
    · by_cases hb : b = a
      · exact .inr ⟨_, _, if_pos hb⟩
      · exact .inl (if_neg hb)
    · by_cases hb : b = a
      · have z' := (if_pos hb).symm.trans z
        cases z'
        rw [hb]
        exact ⟨ha, by rw [List.length_map]; exact hl, vs, _, rv, ha⟩
      · have z' := (if_neg hb).symm.trans z
        cases z'
    · by_cases hb : b = a
      · exact hb
      · exact absurd (if_neg hb) z
end
/-- the end of a law whose promise is such -/
theorem walk_ofG {l : PySem.W.OpenLaw} {n k : Nat} {q : Program} {loose : List Str} {XP : (Str → Option Value) → Heap → Prop} {YP : World → Heap → Prop} {d : DefRec} {x : Str}
    (hn : l.most = some n) (hn2 : n ≤ sizeLine) (hdf : d.params.defaults = []) (hr : Room k callerA)
    (F : ∀ (w : World) (mg : Str → Option Value) (fa : Addr) (h : Heap), YP w h → h.Ns mainGlobals mg → mg d.name = some (.ref fa) →
      ∃ (K : PySem.W.Frag) (fd : FuncData) (sp : Sp), K.In h ∧ (∀ (s : Shared) (u : Value), BindsTo s fd ⟨[u], []⟩ [(x, u)]) ∧
        (∀ (H : Hp) (a : Addr) (ns : List Int), ns.length ≤ n → Only H → SqL K H a (ns.map V.int) → sp [.ref a] H (fun v _ => v = .bl true) fun _ _ _ => False) ∧
        ∀ base : Heap, K.In base → base.Ns mainGlobals mg → FnOkG l.prog w K mg base k fa fd [x] sp) :
    PySem.W.WalkO q loose XP YP l.row.toRowW d [] (fun f vs => PySem.call f vs) := by
  refine Att.attach_call hn hdf fun w s₀ s₁ mg mb fa o pm cd doc a vs ns G Y ho hd hcd hmg hobj hints hlen hg => ?_
  obtain ⟨K, fd, sp, KX, hb, hsp, hF⟩ := F w mg fa _ Y G.T.g hmg
  exact law_callG KX G.T.g G.T.b G.T.builtins G.T.nolimit hg hobj hints (Nat.le_trans hlen hn2) hr hF hb (fun H hO hS => hsp H a ns hlen hO hS)
end EX2
set_option Elab.async false
set_option linter.all false
set_option maxRecDepth 100000
set_option maxHeartbeats 4000000
namespace EX2
open PySem PySem.Spec PyProof.Rows L2
/-! ### the head's facts -/
abbrev FnZ : Type := Option (Str × Str × Arguments × FuncBody × Scope × Addr × List Str × Addr)
def ini (K : PySem.W.Frag) (C : Str) : Addr := He.ma K (He.ga K C) "__init__"
def suW (K : PySem.W.Frag) (C : Str) : FnZ := match K.lookup (ini K C) with
  | some ⟨_, _, .func fd, _⟩ => some (fd.name, fd.qualname, fd.params, fd.body, fd.scope, fd.globals, fd.closure.map (·.1), fd.builtins)
  | _ => none
/-- an __init__ that says super().__init__: its class's name, its text, its fields -/
structure SuD where
  cls : Str
  qual : Str
  st : Stmt
  flds : List Str
def SuD.val (d : SuD) : FnZ := some ("__init__", d.qual, defArgs d.st, .stmts (defBody d.st), defScope d.st, mainGlobals, ["__class__"], builtinsNs)
def noneB : Value → Bool
  | .none => true
  | _ => false
theorem noneB_ok {v : Value} (h : noneB v = true) : v = .none := by
  cases v with
  | none => rfl
  | _ => cases h
def cellB (K : PySem.W.Frag) (D : Addr) (cl : List (Str × Addr)) : Bool := match cl with
  | [(_, cc)] => (match K.lookup cc with
    | some ⟨_, _, .cell (some (.ref D')), _⟩ => decide (D' = D)
    | _ => false)
  | _ => false
def fileB (K : PySem.W.Frag) (file : Str) (cd : Value) : Bool := match cd with
  | .ref c => (match K.lookup c with
    | some ⟨_, _, .fields vs, _⟩ => (match vs[2]? with
      | some (Value.str f _) => file == f
      | _ => false)
    | _ => false)
  | _ => false
def SuD.ok (file : Str) (K : PySem.W.Frag) (d : SuD) : Bool := match K.lookup (ini K d.cls) with
  | some ⟨_, _, .func fd, _⟩ => PySem.W.codeIn K fd.code d.qual && (noneB fd.defaults && (noneB fd.kwdefaults && (fd.annotations.isNone && (cellB K (He.ga K d.cls) fd.closure && fileB K file fd.code))))
  | _ => false
def clsB (K : PySem.W.Frag) (C B f : Addr) (flds : List Str) : Bool :=
  PySem.W.excInitIn K C bmE "Exception.__new__" && (PySem.W.excOver K C bmE && (PySem.W.hasDictIn K C && (He.eqO (PySem.W.findIn K (.ref C) "__setattr__") (some (some (.builtin "object.__setattr__"))) &&
  (decide (PySem.W.typeIn K (.ref C) = some (.type "type")) && (PySem.W.keepIn K (.ref C) &&
  (He.eqO (PySem.W.findIn K (.ref C) "__getattribute__") (some (some (.builtin "BaseException.__getattribute__"))) && (He.eqO (PySem.W.findIn K (.ref C) "__getattr__") (some none) &&
  (He.eqO (PySem.W.findIn K (.ref C) "__class__") (some (some (.builtin "object.__class__"))) && (He.eqO (PySem.W.findIn K (.ref C) "__init__") (some (some (.ref f))) && (decide (PySem.W.typeIn K (.ref f) = some (.type "function")) &&
  (He.eqO (PySem.W.ks_superIn K C C "__init__") (some (some (.builtin "Exception.__init__"))) && ((PySem.W.clsIn K C).any (fun cd => decide (cd.mro = .ref C :: .ref B :: bmE)) && flds.all fun x => He.eqO (PySem.W.findIn K (.ref C) x) (some none)))))))))))))
/-- the same of all classes: two facts of built-in things -/
def bltB (K : PySem.W.Frag) : Bool := He.eqO (PySem.W.specialIn K (.builtin "object.__class__") "__get__") (some (some (.builtin "getset_descriptor.__get__"))) && (decide (PySem.W.takesIn K (.builtin "object.__class__") = some true) &&
  (He.eqO (PySem.W.nsIn K cStatics "thirdparty.any") (some none) && He.dictB K sysModules))
def sudB (file : Str) (K : PySem.W.Frag) (B : Str) (xs : List SuD) : Bool := bltB K && (xs.all fun d => clsB K (He.ga K d.cls) (He.ga K B) (ini K d.cls) d.flds && d.ok file K)
/-- what is told of a class -/
structure ClsG (K : PySem.W.Frag) (C B f : Addr) (flds : List Str) : Prop where
  t : ExK K C
  x : XfC K C
  c : ExcC K C
  at_ : PySem.W.findIn K (.ref C) "__init__" = some (some (.ref f))
  ty : PySem.W.typeIn K (.ref f) = some (.type "function")
  su : PySem.W.ks_superIn K C C "__init__" = some (some (.builtin "Exception.__init__"))
  mro : ∃ cd, PySem.W.clsIn K C = some cd ∧ cd.mro = .ref C :: .ref B :: bmE
  no : ∀ x ∈ flds, PySem.W.findIn K (.ref C) x = some none
theorem mro_of {K : PySem.W.Frag} {C B : Addr} (h : ∃ cd, PySem.W.clsIn K C = some cd ∧ cd.mro = .ref C :: .ref B :: bmE) (b : Value) : PySem.W.mroIn K C b = some ((Value.ref C :: .ref B :: bmE).contains b) := by
  obtain ⟨cd, h1, h2⟩ := h
  unfold PySem.W.mroIn
  rw [h1, Option.bind_some, h2, if_neg (by simp)]
theorem has_ty {C B : Addr} (T : String) (h : bmE.contains (.type T) = true) : (Value.ref C :: .ref B :: bmE).contains (.type T) = true := by
  rw [List.contains_cons, List.contains_cons, h, Bool.or_true, Bool.or_true]
theorem clsB_ok {K : PySem.W.Frag} {C B f : Addr} {flds : List Str} (hb : bltB K = true) (h : clsB K C B f flds = true) : ClsG K C B f flds := by
  unfold clsB at h
  simp only [Bool.and_eq_true] at h
  obtain ⟨h1, h2, h3, h4, h5, h6, h7, h8, h9, h10, h11, h12, h13, h14⟩ := h
  unfold bltB at hb
  simp only [Bool.and_eq_true] at hb
  obtain ⟨b1, b2, b3, b4⟩ := hb
  have hm : ∃ cd, PySem.W.clsIn K C = some cd ∧ cd.mro = .ref C :: .ref B :: bmE := by
    obtain ⟨cd, e1, e2⟩ := PySem.W.any_some h13
    exact ⟨cd, e1, of_decide_eq_true e2⟩
  have s1 : PySem.W.subIn K (.ref C) (.type "BaseException") = some true := (mro_of hm _).trans (congrArg some (has_ty _ (by decide +kernel)))
  have s2 : PySem.W.subIn K (.ref C) (.type "Exception") = some true := (mro_of hm _).trans (congrArg some (has_ty _ (by decide +kernel)))
  have s3 : PySem.W.mroIn K C (.type "object") = some true := (mro_of hm _).trans (congrArg some (has_ty _ (by decide +kernel)))
  refine ⟨⟨h1, h2, h3, He.eqO_ok h4, s1, s2, of_decide_eq_true h5, h6⟩, ⟨He.eqO_ok h7, He.eqO_ok h8, s1, h3⟩, ⟨He.eqO_ok h7, He.eqO_ok h8, s1, h3, He.eqO_ok h9, He.eqO_ok b1, of_decide_eq_true b2, s3⟩, He.eqO_ok h10, of_decide_eq_true h11, He.eqO_ok h12, hm, fun x hx => He.eqO_ok (List.all_eq_true.mp h14 x hx)⟩
theorem ClsG.self {K : PySem.W.Frag} {C B f : Addr} {flds : List Str} (g : ClsG K C B f flds) : PySem.W.mroIn K C (.ref C) = some true := (mro_of g.mro _).trans (by simp)
/-- isinstance: another such class, the base, a built-in type that is not above -/
theorem ClsG.kit {K : PySem.W.Frag} {C B f D f' : Addr} {flds flds' : List Str} (g : ClsG K C B f flds) (g' : ClsG K D B f' flds') (h : D ≠ B) : PySem.W.kitOne K (.ref C) (.ref D) = some (decide (C = D)) := by
  unfold PySem.W.kitOne
  by_cases e : C = D
  · subst e
    rw [if_pos (by simp), decide_eq_true rfl]
  · have e' : (Value.ref C == Value.ref D) = false := by simp [e]
    rw [e', if_neg (by simp), decide_eq_false e]
    obtain ⟨cd, h1, h2⟩ := g'.mro
    show (if ((PySem.W.clsIn K D).isSome && PySem.W.typeIn K (.ref D) == some (.type "type")) = true then PySem.W.subIn K (.ref C) (.ref D) else none) = some false
    rw [h1, g'.t.tyC, if_pos (by rfl)]
    refine (mro_of g.mro _).trans ?_
    simp [Ne.symm e, h]
theorem ClsG.kitB {K : PySem.W.Frag} {C B f : Addr} {flds : List Str} (g : ClsG K C B f flds) (hB : ((PySem.W.clsIn K B).isSome && PySem.W.typeIn K (.ref B) == some (.type "type")) = true) : PySem.W.kitOne K (.ref C) (.ref B) = some true := by
  unfold PySem.W.kitOne
  by_cases e : C = B
  · subst e
    rw [if_pos (by simp)]
  · have e' : (Value.ref C == Value.ref B) = false := by simp [e]
    rw [e', if_neg (by simp)]
    show (if ((PySem.W.clsIn K B).isSome && PySem.W.typeIn K (.ref B) == some (.type "type")) = true then PySem.W.subIn K (.ref C) (.ref B) else none) = some true
    rw [if_pos hB]
    exact (mro_of g.mro _).trans (by simp)
theorem ClsG.kitT {K : PySem.W.Frag} {C B f : Addr} {flds : List Str} (g : ClsG K C B f flds) {T : String} {b : Bool} (hm : PySem.W.kitMeta T = true) (h : bmE.contains (.type T) = b) : PySem.W.kitOne K (.ref C) (.type T) = some b := by
  unfold PySem.W.kitOne
  have e' : (Value.ref C == Value.type T) = false := rfl
  rw [e', if_neg (by simp)]
  show (if PySem.W.kitMeta T = true then PySem.W.subIn K (.ref C) (.type T) else none) = some b
  rw [if_pos hm]
  refine (mro_of g.mro _).trans ?_
  rw [List.contains_cons, List.contains_cons, h]
  rfl
theorem suF_of {P : Program} {K : PySem.W.Frag} {d : SuD} (g : ClsG K (He.ga K d.cls) B (ini K d.cls) d.flds) (e : suW K d.cls = d.val) (c : d.ok P.main.file K = true) : ∃ fd, SuF P K d.qual d.st (He.ga K d.cls) (ini K d.cls) fd := by
  unfold suW at e
  unfold SuD.ok at c
  cases q : K.lookup (ini K d.cls) with
  | none =>
    rw [q] at c
    cases c
  | some o =>
    obtain ⟨oc, od, dt, osl⟩ := o
    rw [q] at c e
    cases dt with
    | func fd =>
      obtain ⟨n1, n2, n3, n4, n5, n6, n7, n8, n9, n10, n11, n12, n13, n14, n15⟩ := fd
      have e2 : (some (n1, n2, n3, n4, n5, n6, n7.map (·.1), n15) : FnZ) = some ((("__init__" : Str), d.qual, defArgs d.st, FuncBody.stmts (defBody d.st), defScope d.st, mainGlobals, [("__class__" : Str)], builtinsNs) : Str × Str × Arguments × FuncBody × Scope × Addr × List Str × Addr) := e
      simp only [Option.some.injEq, Prod.mk.injEq] at e2
      obtain ⟨h1, h2, h3, h4, h5, h6, h7, h8⟩ := e2
      subst h1 h2 h3 h4 h5 h6 h8
      have c2 : (PySem.W.codeIn K n13 d.qual && (noneB n8 && (noneB n9 && (n12.isNone && (cellB K (He.ga K d.cls) n7 && fileB K P.main.file n13))))) = true := c
      simp only [Bool.and_eq_true] at c2
      obtain ⟨k1, k2, k3, k4, k5, k6⟩ := c2
      obtain rfl := noneB_ok k2
      obtain rfl := noneB_ok k3
      obtain rfl : n12 = none := by
        cases n12 with
        | none => rfl
        | some a => cases k4
      obtain ⟨cd, rfl⟩ := He.codeIn_ref k1
      match n7, h7, k5 with
      | [(y, cc)], h7, k5 =>
        obtain rfl : y = ("__class__" : Str) := List.head_eq_of_cons_eq h7
        unfold cellB at k5
        dsimp only at k5
        unfold fileB at k6
        dsimp only at k6
        split at k5
        · rename_i kc kd D' ks lcc
          split at k6
          · rename_i fc fdd vs fs lc
            split at k6
            · rename_i ff ft hv
              have hD : D' = He.ga K d.cls := of_decide_eq_true k5
              subst hD
              exact ⟨_, ⟨oc, od, osl, n10, n11, n14, cc, cd, _, _, vs, ff, ft, rfl, q, k1, lcc, rfl, lc, rfl, hv, k6⟩, g.at_, g.ty⟩
            · cases k6
          · cases k6
        · cases k5
    | _ => cases c
/-! ### the Hook -/
abbrev AlY : Type := (He.AlT × Bool) × List FnZ
def frY (g : Addr → Option Obj) (n : Nat) : PySem.W.Frag := He.frT g (sysModules :: cStatics :: He.asD g n)
def obsY (n : Nat) (fa : List He.Fa) (fn : List He.DefD) (xs : List SuD) (ex : PySem.W.Frag → Bool) (g : Addr → Option Obj) : AlY := ((He.obsT fa fn [] (frY g n), ex (frY g n)), xs.map fun d => suW (frY g n) d.cls)
def valY (fn : List He.DefD) (xs : List SuD) (w : World) : AlY := ((He.valT fn [] w, true), xs.map SuD.val)
structure SaysY (fa : List He.Fa) (fn : List He.DefD) (xs : List SuD) (ex : PySem.W.Frag → Bool) (w : World) (K : PySem.W.Frag) : Prop where
  t : He.SaysT fa fn [] w K
  more : ex K = true
  sup : xs.map (fun d => suW K d.cls) = xs.map SuD.val
def hookY (n : Nat) (fa : List He.Fa) (fn : List He.DefD) (xs : List SuD) (ex : PySem.W.Frag → Bool) : PySem.W.Hook where
  α := AlY
  obs := fun s => obsY n fa fn xs ex s.heap.get?
  val := fun w => valY fn xs w
  says := fun w h => ∃ K : PySem.W.Frag, K.In h ∧ SaysY fa fn xs ex w K
  of := fun _ _ e => ⟨_, He.frT_in, congrArg (fun z : AlY => z.1.1) e, congrArg (fun z : AlY => z.1.2) e, congrArg (fun z : AlY => z.2) e⟩
  keeps := fun _ _ _ ⟨K, hK, c⟩ k => ⟨K, PySem.W.Frag.In.keeps hK k, c⟩
theorem obsY_eq {n : Nat} {fa : List He.Fa} {fn : List He.DefD} {xs : List SuD} {ex : PySem.W.Frag → Bool} {g : Addr → Option Obj} {s : Shared} (h : ∀ a, g a = s.heap.get? a) : obsY n fa fn xs ex g = (hookY n fa fn xs ex).obs s := by
  have e : g = s.heap.get? := funext h
  rw [e] <;> rfl
/-- all that is told of the i-th such class -/
theorem sud_at {P : Program} {K : PySem.W.Frag} {B : Str} {xs : List SuD} (hb : sudB P.main.file K B xs = true) (hs : xs.map (fun d => suW K d.cls) = xs.map SuD.val) (i : Nat) {d : SuD} (h : xs[i]? = some d := by rfl) :
    ClsG K (He.ga K d.cls) (He.ga K B) (ini K d.cls) d.flds ∧ ∃ fd, SuF P K d.qual d.st (He.ga K d.cls) (ini K d.cls) fd := by
  unfold sudB at hb
  rw [Bool.and_eq_true] at hb
  have h1 := List.all_eq_true.mp hb.2 d (List.mem_of_getElem? h)
  rw [Bool.and_eq_true] at h1
  have g := clsB_ok hb.1 h1.1
  refine ⟨g, suF_of g ?_ h1.2⟩
  have e2 : (xs.map fun d => suW K d.cls)[i]? = (xs.map SuD.val)[i]? := by rw [hs]
  rw [List.getElem?_map, List.getElem?_map, h] at e2
  exact Option.some.inj e2
theorem sysD_of {K : PySem.W.Frag} {h : Heap} (hb : bltB K = true) (X : K.In h) : SysD h := by
  unfold bltB at hb
  simp only [Bool.and_eq_true] at hb
  obtain ⟨es, n, sl, e⟩ := He.dictB_ok hb.2.2.2
  exact ⟨_, es, n, X _ _ e, rfl⟩
end EX2
set_option Elab.async false
set_option linter.all false
set_option maxRecDepth 100000
set_option maxHeartbeats 4000000
/-! the head's facts, with tables and defs at any path (property getters) -/
namespace EX2
open PySem PySem.Spec PyProof.Rows L2
/-- a def without defaults and cells, found by a path -/
structure PD where
  at_ : PySem.W.Frag → Addr
  name : Str
  qual : Str
  st : Stmt
def pdW (K : PySem.W.Frag) (d : PD) : He.FnW := match K.lookup (d.at_ K) with
  | some ⟨_, _, .func fd, _⟩ => some (fd.name, fd.qualname, fd.params, fd.body, fd.scope, fd.globals, fd.closure, fd.builtins)
  | _ => none
def PD.val (d : PD) : He.FnW := some (d.name, d.qual, defArgs d.st, .stmts (defBody d.st), defScope d.st, mainGlobals, [], builtinsNs)
def PD.ok (K : PySem.W.Frag) (d : PD) : Bool := PySem.W.keepIn K (.ref (d.at_ K)) && (match K.lookup (d.at_ K) with
  | some ⟨_, _, .func fd, _⟩ => PySem.W.codeIn K fd.code d.qual && (noneB fd.defaults && noneB fd.kwdefaults)
  | _ => false)
theorem PD.funD {K : PySem.W.Frag} {d : PD} (e : pdW K d = d.val) (c : d.ok K = true) : ∃ fd, FunD K d.name d.qual (defArgs d.st) (defBody d.st) (defScope d.st) [] [] (d.at_ K) fd := by
  unfold PD.ok at c
  rw [Bool.and_eq_true] at c
  obtain ⟨kp, c2⟩ := c
  unfold pdW at e
  cases q : K.lookup (d.at_ K) with
  | none =>
    rw [q] at c2
    cases c2
  | some o =>
    obtain ⟨oc, od, dt, osl⟩ := o
    rw [q] at c2 e
    cases dt with
    | func fd =>
      obtain ⟨n1, n2, n3, n4, n5, n6, n7, n8, n9, n10, n11, n12, n13, n14, n15⟩ := fd
      have e2 : (some (n1, n2, n3, n4, n5, n6, n7, n15) : He.FnW) = some (d.name, d.qual, defArgs d.st, .stmts (defBody d.st), defScope d.st, mainGlobals, [], builtinsNs) := e
      simp only [Option.some.injEq, Prod.mk.injEq] at e2
      obtain ⟨h1, h2, h3, h4, h5, h6, h7, h8⟩ := e2
      subst h1 h2 h3 h4 h5 h6 h7 h8
      have c3 : (PySem.W.codeIn K n13 d.qual && (noneB n8 && noneB n9)) = true := c2
      simp only [Bool.and_eq_true] at c3
      obtain ⟨k1, k2, k3⟩ := c3
      obtain rfl := noneB_ok k2
      exact ⟨_, ⟨oc, od, .none, n9, n10, n11, n12, n13, n14, osl, rfl, q, k1, .inl ⟨rfl, rfl⟩, .inl rfl⟩, kp⟩
    | _ => cases c2
/-- a property's object, its getter -/
def prA (K : PySem.W.Frag) (C f : Str) : Addr := He.ma K (He.ga K C) f
def prG (C f : Str) (K : PySem.W.Frag) : Addr := match K.lookup (prA K C f) with
  | some ⟨_, _, .fields vs, _⟩ => (match vs[0]? with
    | some (Value.ref g) => g
    | _ => 0)
  | _ => 0
def propB (K : PySem.W.Frag) (C f : Str) : Bool := He.eqO (PySem.W.findIn K (.ref (He.ga K C)) f) (some (some (.ref (prA K C f)))) && (He.eqO (PySem.W.specialIn K (.ref (prA K C f)) "__get__") (some (some (.builtin "property.__get__"))) &&
  (decide (PySem.W.takesIn K (.ref (prA K C f)) = some true) && (match PySem.W.recIn K (prA K C f) "property" with
    | some (.ref g :: _) => decide (g = prG C f K)
    | _ => false)))
theorem propB_ok {K : PySem.W.Frag} {C f : Str} (h : propB K C f = true) : PropOf K (He.ga K C) f (prA K C f) (prG C f K) := by
  unfold propB at h
  simp only [Bool.and_eq_true, decide_eq_true_eq] at h
  obtain ⟨h1, h2, h3, h4⟩ := h
  refine ⟨He.eqO_ok h1, He.eqO_ok h2, h3, ?_⟩
  split at h4
  · rename_i g rest e
    have eg : g = prG C f K := of_decide_eq_true h4
    exact ⟨rest, by rw [e, eg]⟩
  · cases h4
/-! ### the Hook -/
abbrev AlZ : Type := ((He.AlT × Bool) × List FnZ) × List He.FnW
def obsZ (n : Nat) (fa : List He.Fa) (fn : List He.DefD) (ts : List He.Tab) (xs : List SuD) (ps : List PD) (ex : PySem.W.Frag → Bool) (g : Addr → Option Obj) : AlZ :=
  (((He.obsT fa fn ts (frY g n), ex (frY g n) && ps.all fun d => d.ok (frY g n)), xs.map fun d => suW (frY g n) d.cls), ps.map fun d => pdW (frY g n) d)
def valZ (fn : List He.DefD) (ts : List He.Tab) (xs : List SuD) (ps : List PD) (w : World) : AlZ := (((He.valT fn ts w, true), xs.map SuD.val), ps.map PD.val)
structure SaysZ (fa : List He.Fa) (fn : List He.DefD) (ts : List He.Tab) (xs : List SuD) (ps : List PD) (ex : PySem.W.Frag → Bool) (w : World) (K : PySem.W.Frag) : Prop where
  t : He.SaysT fa fn ts w K
  more : ex K = true
  pok : (ps.all fun d => d.ok K) = true
  sup : xs.map (fun d => suW K d.cls) = xs.map SuD.val
  pth : ps.map (fun d => pdW K d) = ps.map PD.val
theorem saysZ_of {fa : List He.Fa} {fn : List He.DefD} {ts : List He.Tab} {xs : List SuD} {ps : List PD} {ex : PySem.W.Frag → Bool} {w : World} {n : Nat} {g : Addr → Option Obj} (e : obsZ n fa fn ts xs ps ex g = valZ fn ts xs ps w) : SaysZ fa fn ts xs ps ex w (frY g n) := by
  have e1 : (ex (frY g n) && ps.all fun d => d.ok (frY g n)) = true := congrArg (fun z : AlZ => z.1.1.2) e
  rw [Bool.and_eq_true] at e1
  exact ⟨congrArg (fun z : AlZ => z.1.1.1) e, e1.1, e1.2, congrArg (fun z : AlZ => z.1.2) e, congrArg (fun z : AlZ => z.2) e⟩
def hookZ (n : Nat) (fa : List He.Fa) (fn : List He.DefD) (ts : List He.Tab) (xs : List SuD) (ps : List PD) (ex : PySem.W.Frag → Bool) : PySem.W.Hook where
  α := AlZ
  obs := fun s => obsZ n fa fn ts xs ps ex s.heap.get?
  val := fun w => valZ fn ts xs ps w
  says := fun w h => ∃ K : PySem.W.Frag, K.In h ∧ SaysZ fa fn ts xs ps ex w K
  of := fun _ _ e => ⟨_, He.frT_in, saysZ_of e⟩
  keeps := fun _ _ _ ⟨K, hK, c⟩ k => ⟨K, PySem.W.Frag.In.keeps hK k, c⟩
theorem obsZ_eq {n : Nat} {fa : List He.Fa} {fn : List He.DefD} {ts : List He.Tab} {xs : List SuD} {ps : List PD} {ex : PySem.W.Frag → Bool} {g : Addr → Option Obj} {s : Shared} (h : ∀ a, g a = s.heap.get? a) : obsZ n fa fn ts xs ps ex g = (hookZ n fa fn ts xs ps ex).obs s := by
  have e : g = s.heap.get? := funext h
  rw [e] <;> rfl
theorem SaysZ.path {fa : List He.Fa} {fn : List He.DefD} {ts : List He.Tab} {xs : List SuD} {ps : List PD} {ex : PySem.W.Frag → Bool} {w : World} {K : PySem.W.Frag} (c : SaysZ fa fn ts xs ps ex w K) (i : Nat) {d : PD} (h : ps[i]? = some d := by rfl) :
    ∃ fd, FunD K d.name d.qual (defArgs d.st) (defBody d.st) (defScope d.st) [] [] (d.at_ K) fd := by
  have e2 : (ps.map fun d => pdW K d)[i]? = (ps.map PD.val)[i]? := by rw [c.pth]
  rw [List.getElem?_map, List.getElem?_map, h] at e2
  exact PD.funD (Option.some.inj e2) (List.all_eq_true.mp c.pok d (List.mem_of_getElem? h))
/-! ### a table of texts with text keys, read for every text -/
def tabOfB (K : PySem.W.Frag) (a : Addr) (kvs : List (Str × Str)) : Bool := match K.lookup a with
  | some ⟨.type c, none, .dict es _, sl⟩ => decide (c = "dict") && (sl.isEmpty && decide (es.toList.map (fun e => (match e.key, e.val with | .str x _, .str y _ => some (x, y) | _, _ => none)) = kvs.map some))
  | _ => false
theorem tab_find {z : Str} : ∀ {l : List DictEntry} {kvs : List (Str × Str)}, l.map (fun e => (match e.key, e.val with | .str x _, .str y _ => some (x, y) | _, _ => none)) = kvs.map some →
    (∃ e y t, l.find? (·.key.isStr z) = some e ∧ kvs.lookup z = some y ∧ e.val = .str y t) ∨ (l.find? (·.key.isStr z) = none ∧ kvs.lookup z = none ∧ l.any (·.refKey) = false)
  | [], [], _ => .inr ⟨rfl, rfl, rfl⟩
  | [], _ :: _, h => by cases h
  | _ :: _, [], h => by cases h
  | e :: l, (x, y) :: kvs, h => by
    obtain ⟨h1, h2⟩ := List.cons.inj h
    obtain ⟨hash, key, val⟩ := e
    dsimp only at h1
    split at h1
    · rename_i x' t1 y' t2
      obtain ⟨rfl, rfl⟩ := Prod.mk.inj (Option.some.inj h1)
      by_cases hz : x' = z
      · subst hz
        refine .inl ⟨⟨hash, .str x' t1, .str y' t2⟩, y', t2, ?_, by simp [List.lookup], rfl⟩
        simp [List.find?, Value.isStr]
      · have k1 : (⟨hash, .str x' t1, .str y' t2⟩ : DictEntry).key.isStr z = false := by simp [Value.isStr, hz]
        have k2 : (z == x') = false := by simp [Ne.symm hz]
        rcases tab_find (z := z) h2 with ⟨e, y, t, a, b, c⟩ | ⟨a, b, c⟩
        · refine .inl ⟨e, y, t, ?_, ?_, c⟩
          · rw [List.find?_cons, k1]
            exact a
          · rw [List.lookup_cons, k2]
            exact b
        · refine .inr ⟨?_, ?_, ?_⟩
          · rw [List.find?_cons, k1]
            exact a
          · rw [List.lookup_cons, k2]
            exact b
          · rw [List.any_cons, c]
            rfl
    · cases h1
theorem tab_look {K : PySem.W.Frag} {a : Addr} {kvs : List (Str × Str)} (h : tabOfB K a kvs = true) (z : Str) : (∃ y t, kvs.lookup z = some y ∧ PySem.W.nsIn K a z = some (some (.str y t))) ∨ (kvs.lookup z = none ∧ PySem.W.nsIn K a z = some none) := by
  unfold tabOfB at h
  split at h
  · rename_i c es n sl e
    simp only [Bool.and_eq_true, decide_eq_true_eq] at h
    unfold PySem.W.nsIn
    rw [e]
    dsimp only
    rcases tab_find (z := z) h.2.2 with ⟨en, y, t, q1, q2, q3⟩ | ⟨q1, q2, q3⟩
    · rw [q1]
      exact .inl ⟨y, t, q2, congrArg (fun v => some (some v)) q3⟩
    · rw [q1]
      exact .inr ⟨q2, by show (if (es.toList.any fun x => x.refKey) = true then none else some none) = some none; rw [q3]; rfl⟩
  · cases h
end EX2
set_option Elab.async false
set_option linter.all false
set_option maxRecDepth 100000
set_option maxHeartbeats 0
namespace K06
open PySem PySem.Spec PyProof.Rows L2
abbrev RW : PySem.W.OpenLaw := PySem.Challenge.rw_lateclasses_k06_errors_of_tables
def top (i : Nat) : Stmt := PySem.Challenge.pw_lateclasses_k06_errors_of_tables.main.body.getD i (.Pass ⟨0, 0, 0, 0⟩)
def dfn (x : Str) (i : Nat) : He.DefD := ⟨(x, none), x, x, defArgs (top i), defBody (top i), defScope (top i), [], []⟩
def mth (c m q : Str) (i j : Nat) : He.DefD := ⟨(c, some m), m, q, defArgs (inClass (top i) j), defBody (inClass (top i) j), defScope (inClass (top i) j), [], []⟩
def mtk (c m q : Str) (i j : Nat) (kw : List (Str × He.Dv)) : He.DefD := ⟨(c, some m), m, q, defArgs (inClass (top i) j), defBody (inClass (top i) j), defScope (inClass (top i) j), [], kw⟩
/-- a keyword default of ClassText.__init__ -/
def kdAt (x : Str) (K : PySem.W.Frag) : Addr := match K.lookup (He.fAd K ("ClassText", some "__init__")) with
  | some ⟨_, _, .func fd, _⟩ => (match fd.kwdefaults with
    | .ref D => (match PySem.W.nsIn K D x with
      | some (some (.ref a)) => a
      | _ => 0)
    | _ => 0)
  | _ => 0
/-- .. is the empty tuple -/
def empB (K : PySem.W.Frag) (x : Str) : Bool := match K.lookup (kdAt x K) with
  | some ⟨.type c, _, .seq its _, _⟩ => decide (c = "tuple") && decide (its.size = 0)
  | _ => false
def fn : List He.DefD := [dfn "_wall" 0, dfn "is_integer" 14, dfn "is_in_range" 15, dfn "is_name" 16, dfn "is_type" 17, dfn "is_sequence" 18, dfn "fits" 24, dfn "is_instruction" 25, dfn "drawers_in" 26, dfn "targets_in" 27, dfn "is_code" 28, dfn "is_size" 29,
  dfn "is_class_name" 33, dfn "are_marks" 34, dfn "is_field" 35, dfn "are_fields" 36, dfn "are_methods" 37, dfn "_law_source" 43, dfn "_law_draw" 44, dfn "_law_said" 45, dfn "_law_loaders_right" 46, dfn "_law_parts_right" 47, dfn "_law_asks_right" 48, dfn "law" 49,
  mtk "ClassText" "__init__" "ClassText.__init__" 38 0 [("above", .str "top"), ("marks", .adr (kdAt "marks")), ("fields", .adr (kdAt "fields")), ("methods", .adr (kdAt "methods"))], mth "ClassText" "parts" "ClassText.parts" 38 9, mth "ClassText" "__eq__" "ClassText.__eq__" 38 10, mth "Loader" "__init__" "Loader.__init__" 40 0, mth "Loader" "__contains__" "Loader.__contains__" 40 5, mth "Loader" "__getitem__" "Loader.__getitem__" 40 7, mth "Tables" "__init__" "Tables.__init__" 41 2, mth "Tables" "check_loader" "Tables.check_loader" 41 4, mtk "Tables" "add_loader" "Tables.add_loader" 41 5 [("rest", .non)], mth "Tables" "check_free" "Tables.check_free" 41 6, mth "Tables" "add_class" "Tables.add_class" 41 7, mth "Tables" "ask" "Tables.ask" 41 8,
  mth "Tables" "next_of" "Tables.next_of" 41 9, mth "Tables" "way" "Tables.way" 41 10, mth "Tables" "identity" "Tables.identity" 41 11, mth "Tables" "text" "Tables.text" 41 12, mth "Tables" "without" "Tables.without" 41 13, mth "Tables" "copy" "Tables.copy" 41 14, mth "Tables" "__getitem__" "Tables.__getitem__" 41 15, mth "Tables" "__contains__" "Tables.__contains__" 41 16, mth "Tables" "__eq__" "Tables.__eq__" 41 19, mth "Tables" "parts" "Tables.parts" 41 20]
def fns : List Str := (["_wall", "is_integer", "is_in_range", "is_name", "is_type", "is_sequence", "fits", "is_instruction", "drawers_in", "targets_in", "is_code", "is_size", "is_class_name", "are_marks", "is_field", "are_fields", "are_methods", "_law_source", "_law_draw", "_law_said"] : List Str) ++ (["_law_loaders_right", "_law_parts_right", "_law_asks_right"] : List Str)
def fa : List He.Fa := [.str "LETTERS" "abcdefghijklmnopqrstuvwxyz", .str "TOP_NAME" "top", .int "MOST_PARTS" 8, .glo "TOP", .glo "law", .glo "ClassText", .mkr "ClassText", .cls "ClassText", .noat "ClassText" "own_name", .noat "ClassText" "own_above", .noat "ClassText" "own_marks", .noat "ClassText" "own_fields", .noat "ClassText" "own_methods", .meth "ClassText" "parts", .meth "ClassText" "__eq__", .glo "Loader", .mkr "Loader", .cls "Loader", .noat "Loader" "own_tables", .noat "Loader" "own_name", .meth "Loader" "__contains__", .meth "Loader" "__getitem__", .glo "Tables", .mkr "Tables", .cls "Tables", .noat "Tables" "texts", .noat "Tables" "asked", .noat "Tables" "rests", .meth "Tables" "check_loader", .meth "Tables" "add_loader", .meth "Tables" "check_free", .meth "Tables" "add_class", .meth "Tables" "ask", .meth "Tables" "next_of", .meth "Tables" "way", .meth "Tables" "identity", .meth "Tables" "text", .meth "Tables" "without", .meth "Tables" "copy", .meth "Tables" "__getitem__", .meth "Tables" "__contains__", .meth "Tables" "__eq__", .meth "Tables" "parts", .glo "Method"] ++
  (fns.map He.Fa.glo) ++ [.free "isinstance", .free "len", .free "all", .free "any", .free "int", .free "bool", .free "str", .free "list", .free "tuple", .free "range", .free "max", .free "min", .free "repr", .free "super", .free "set", .free "dict", .free "zip", .free "sorted", .glo "InvalidName", .glo "InvalidClass", .glo "NameTaken", .glo "UnknownLoader", .glo "UnknownClass", .glo "LimitExceeded", .glo "ClassError"]
def pdc (c f q : Str) (i j : Nat) : EX2.PD := ⟨EX2.prG c f, f, q, inClass (top i) j⟩
def pds : List EX2.PD := [pdc "ClassText" "name" "ClassText.name" 38 1, pdc "Loader" "classes" "Loader.classes" 40 4]
def sd (c q : Str) (i : Nat) (fl : List Str) : EX2.SuD := ⟨c, q, inClass (top i) 0, fl⟩
def xs : List EX2.SuD := [sd "InvalidName" "InvalidName.__init__" 3 ["given"], sd "InvalidClass" "InvalidClass.__init__" 5 ["given"], sd "NameTaken" "NameTaken.__init__" 6 ["given"], sd "UnknownLoader" "UnknownLoader.__init__" 7 ["given"], sd "UnknownClass" "UnknownClass.__init__" 8 ["loader", "word"], sd "LimitExceeded" "LimitExceeded.__init__" 9 ["limit"]]
/-- what isinstance and != ask of a class -/
def insC (K : PySem.W.Frag) (C : Str) : Bool := He.eqO (PySem.W.findIn K (.ref (He.ga K C)) "__class__") (some (some (.builtin "object.__class__"))) && (decide (PySem.W.mroIn K (He.ga K C) (.type "object") = some true) && ((["list", "NoneType", "str", "tuple", "int"] : List String).all fun t => decide (PySem.W.kitOne K (.type t) (.ref (He.ga K C)) = some false)))
def insB (K : PySem.W.Frag) : Bool := insC K "ClassText" && (insC K "Tables" && (insC K "Loader" && ([EX2.propB K "ClassText" "name", EX2.propB K "Loader" "classes"].all id && ((["marks", "fields", "methods"] : List Str).all (empB K)))))
/-- the tables of the code objects: none of K, no two the same -/
def lams : List Str := ["_law_loaders_right", "_law_parts_right", "_law_asks_right", "law"]
def tabB (K : PySem.W.Frag) : Bool := (lams.all fun y => match PySem.W.tabIn K y with
  | some (_, T) => (K.lookup T).isNone
  | none => false) && decide ((lams.map fun y => (PySem.W.tabIn K y).map (·.2)).Nodup)
/-- class constants -/
def cvB (K : PySem.W.Frag) (f : Str) (n : Int) : Bool := PySem.W.readsIn K (He.ga K "Tables") (.type "type") && (He.eqO (PySem.W.specialIn K (.ref (He.ga K "Tables")) "__getattribute__") (some (some (.builtin "type.__getattribute__"))) && match PySem.W.findCls K (.ref (He.ga K "Tables")) (.type "type") f with
  | some (.val (.int m _)) => decide (m = n)
  | _ => false)
/-- own items -/
def itemB (K : PySem.W.Frag) : Bool := (["Tables", "Loader"] : List Str).all fun c => PySem.W.fnIn K (He.ma K (He.ga K c) "__getitem__")
def ex (K : PySem.W.Frag) : Bool := tabB K && ((itemB K && (cvB K "MOST" 8 && cvB K "CLASSES" 40)) && (EX2.sudB PySem.Challenge.pw_lateclasses_k06_errors_of_tables.main.file K "ClassError" xs &&
  (decide (((["ClassError", "InvalidName", "InvalidClass", "NameTaken", "UnknownLoader", "UnknownClass", "LimitExceeded"] : List Str).map (He.ga K)).Nodup) && ((PySem.W.clsIn K (He.ga K "ClassError")).isSome && PySem.W.typeIn K (.ref (He.ga K "ClassError")) == some (.type "type"))) && insB K))
abbrev R : PySem.W.OpenRow := PySem.W.OpenLaw.row RW
abbrev hk : PySem.W.Hook := EX2.hookZ 5 fa fn [] xs pds ex
def ob (s : PySem.W.SharedT) : EX2.AlZ := EX2.obsZ 5 fa fn [] xs pds ex (HandSHeadRun.getT s)
theorem ob_eq (s : PySem.W.SharedT) : ob s = hk.obs s.abs := EX2.obsZ_eq (HandSHeadRun.getT_eq s)
def loose : List PySem.Str := ([("ClassError" : PySem.Str), ("InvalidMethod" : PySem.Str), ("InvalidName" : PySem.Str), ("InvalidClass" : PySem.Str), ("NameTaken" : PySem.Str), ("UnknownLoader" : PySem.Str), ("UnknownClass" : PySem.Str), ("LimitExceeded" : PySem.Str), ("LETTERS" : PySem.Str), ("TOP_NAME" : PySem.Str), ("TOP" : PySem.Str), ("FORMS" : PySem.Str), ("MOST_CODE" : PySem.Str), ("MOST_SIZE" : PySem.Str), ("MOST_PARAMS" : PySem.Str), ("MOST_PARTS" : PySem.Str), ("ClassText" : PySem.Str), ("Loader" : PySem.Str), ("Tables" : PySem.Str), ("Method" : PySem.Str)] : List PySem.Str) ++ fns.filter fun (x : PySem.Str) => !(x == ("_law_loaders_right" : PySem.Str) || x == ("_law_parts_right" : PySem.Str) || x == ("_law_asks_right" : PySem.Str))
theorem runF (w : World) : HandSHeadRun.RunEq R (PySem.W.view R.prog [46, 47, 48, 49]) hk ob 16000 loose (w.withFollow "special-get-raises" false) := by
  intro os
  kernel_rfl
theorem runT (w : World) : HandSHeadRun.RunEq R (PySem.W.view R.prog [46, 47, 48, 49]) hk ob 16000 loose (w.withFollow "special-get-raises" true) := by
  intro os
  kernel_rfl
theorem run (w : World) : HandSHeadRun.RunEq R (PySem.W.view R.prog [46, 47, 48, 49]) hk ob 16000 loose w := PySem.W.byRow2 "special-get-raises" runF runT w
end K06
set_option Elab.async false
set_option linter.all false
set_option maxRecDepth 100000
set_option maxHeartbeats 1000000
/-! zip of a text and a tuple -/
namespace RZ
open PySem
open PySem.Sem (wp)
section
variable {prog : Program} {w : World} {A : Around} {E : Value → Shared → Prop} {s : Shared}
theorem zipS_next_item {z TI TO i1 i2 l1 l2 : Addr} {k1 k2 c0 : Nat} {tx : Str} {tt : Tok} {ys : Array Value} {y a b : Value} {Q : Value → Shared → Prop} (D : ZipApart z TI TO i1 i2 l1 l2)
    (hz : IsZip s.heap z TI TO .none) (hTI : IsPair s.heap TI (.ref i1) (.ref i2)) (hTO : IsPair s.heap TO a b)
    (h1 : s.heap.IsStrIter i1 "str_ascii_iterator" tx tt k1) (h2 : s.heap.IsTupleIter i2 l2 k2) (hl2 : s.heap.IsTuple l2 ys) (hx : tx.cps[k1]? = some c0) (hy : ys[k2]? = some y)
    (hQ : ∀ h', IsZip h' z TI TO (rawInt s.heap.objs.size) → IsPair h' TO (.str ⟨#[c0]⟩ s.toks) y → h'.IsStrIter i1 "str_ascii_iterator" tx tt (k1 + 1) → h'.IsTupleIter i2 l2 (k2 + 1) → IsPair h' s.heap.objs.size (.str ⟨#[c0]⟩ s.toks) y → h'.objs.size = s.heap.objs.size + 1 →
      (∀ c o, c ≠ z → c ≠ TO → c ≠ i1 → c ≠ i2 → s.heap.get? c = some o → h'.get? c = some o) → Q (.ref s.heap.objs.size) { s with heap := h', toks := s.toks + 1 }) :
    wpAny (model prog w) A (Builtin.«zip.__next__» ⟨[.ref z], []⟩) (fun fin s' => ∃ v, fin = .done (.ret v) ∧ Q v s') E s := by
  show wpAny _ _ (field (.ref z) 2 >>= _) _ _ _
  refine wpAny_bind (wpAny_field hz rfl (x := .bool false) rfl ?_)
  show wpAny _ _ (field (.ref z) 3 >>= _) _ _ _
  refine wpAny_bind (wpAny_field hz rfl (x := .ref TI) rfl ?_)
  refine wpAny_bind (wpAny_seqItems hTI rfl ?_)
  show wpAny _ _ (Builtin.SmallTypes.ownedTupleIsFree (.ref z) >>= _) _ _ _
  refine wpAny_bind ?_
  unfold Builtin.SmallTypes.ownedTupleIsFree
  refine wpAny_bind (wpAny_field hz rfl (x := .none) rfl (wpAny_pure ?_))
  simp only [if_true]
  refine wpAny_bind (wpAny_rule ?_)
  refine wpAny_bind (wpAny_field hz rfl (x := .ref TO) rfl ?_)
  refine wpAny_bind (wpAny_setField_rec hz (by simp) fun h₁ hz₁ hs₁ => ?_)
  replace hz₁ : IsZip h₁ z TI TO .ellipsis := hz₁
  refine wpAny_bind ?_
  simp only [List.zipIdx_cons, List.zipIdx_nil, List.forIn_cons, List.forIn_nil]

  refine wpAny_bind (wpAny_bind (wpAny_onRaise ?_))
  show wpAny _ _ (Builtin.SmallTypes.nextOf (.ref i1) >>= _) _ _ _
  refine wpAny_bind (wpAny_nextOf_ascii_item (h1.extBut hs₁.extBut D.i1z) hx fun h₂ h1₂ hs₂ => wpAny_pure ?_)
  have hTO₂ : IsPair h₂ TO a b := hs₂.extBut _ _ D.TOi1 (hs₁.extBut _ _ D.TOz hTO)
  refine wpAny_bind (wpAny_seqItems hTO₂ rfl ?_)
  refine wpAny_bind (wpAny_updateSeq_pair hTO₂ fun h₃ hTO₃ hs₃ => ?_)
  replace hTO₃ : IsPair h₃ TO (.str ⟨#[c0]⟩ s.toks) b := hTO₃
  refine wpAny_bind (wpAny_letGo (wpAny_pure ?_))

  refine wpAny_bind (wpAny_bind (wpAny_onRaise ?_))
  show wpAny _ _ (Builtin.SmallTypes.nextOf (.ref i2) >>= _) _ _ _
  refine wpAny_bind (nextOf_tuple_item (((h2.extBut hs₁.extBut D.i2z).extBut hs₂.extBut D.i12.symm).extBut hs₃.extBut D.TOi2.symm)
    (((hl2.extBut hs₁.extBut D.l2z).extBut hs₂.extBut D.l2i1).extBut hs₃.extBut D.l2TO) hy fun h₄ h2₄ hs₄ => wpAny_pure ?_)
  have hTO₄ : IsPair h₄ TO (.str ⟨#[c0]⟩ s.toks) b := hs₄.extBut _ _ D.TOi2 hTO₃
  refine wpAny_bind (wpAny_seqItems hTO₄ rfl ?_)
  refine wpAny_bind (wpAny_updateSeq_pair hTO₄ fun h₅ hTO₅ hs₅ => ?_)
  replace hTO₅ : IsPair h₅ TO (.str ⟨#[c0]⟩ s.toks) y := hTO₅
  refine wpAny_bind (wpAny_letGo (wpAny_pure (wpAny_pure ?_)))

  refine wpAny_bind (wpAny_seqItems hTO₅ rfl ?_)
  refine wpAny_bind (wpAny_newTuple ?_)
  have hsz : h₅.objs.size = s.heap.objs.size := by rw [hs₅.1, hs₄.1, hs₃.1, hs₂.1, hs₁.1]
  have hz₅ : IsZip h₅ z TI TO .ellipsis := hs₅.extBut _ _ D.TOz.symm (hs₄.extBut _ _ D.i2z.symm (hs₃.extBut _ _ D.TOz.symm (hs₂.extBut _ _ D.i1z.symm hz₁)))
  have hk₅ : ∀ c o, c ≠ z → c ≠ TO → c ≠ i1 → c ≠ i2 → s.heap.get? c = some o → h₅.get? c = some o := fun c o c1 c2 c3 c4 e =>
    hs₅.extBut _ _ c2 (hs₄.extBut _ _ c4 (hs₃.extBut _ _ c2 (hs₂.extBut _ _ c3 (hs₁.extBut _ _ c1 e))))
  have h1₅ : h₅.IsStrIter i1 "str_ascii_iterator" tx tt (k1 + 1) := ((h1₂.extBut hs₃.extBut D.TOi1.symm).extBut hs₄.extBut D.i12).extBut hs₅.extBut D.TOi1.symm
  have h2₅ : h₅.IsTupleIter i2 l2 (k2 + 1) := h2₄.extBut hs₅.extBut D.TOi2.symm
  have hzlt : z < h₅.objs.size := Heap.lt_size hz₅
  have hTOlt : TO < h₅.objs.size := Heap.lt_size hTO₅
  have hi1lt : i1 < h₅.objs.size := by obtain ⟨_, e, _⟩ := h1₅; exact Heap.lt_size e
  have hi2lt : i2 < h₅.objs.size := by obtain ⟨_, e, _⟩ := h2₅; exact Heap.lt_size e
  show wpAny _ _ (Builtin.SmallTypes.ownedTupleHandOut (.ref z) (.ref h₅.objs.size) >>= _) _ _ _
  refine wpAny_bind ?_
  unfold Builtin.SmallTypes.ownedTupleHandOut
  have hz₆ : IsZip (h₅.push { cls := .type "tuple", data := .seq #[.str ⟨#[c0]⟩ s.toks, y] }) z TI TO .ellipsis := Heap.get?_push_of_some _ hz₅
  refine wpAny_bind (wpAny_setField_rec hz₆ (by simp) fun h₇ hz₇ hs₇ => ?_)
  replace hz₇ : IsZip h₇ z TI TO (rawInt h₅.objs.size) := hz₇
  refine wpAny_setField_rec hz₇ (by simp) fun h₈ hz₈ hs₈ => ?_
  replace hz₈ : IsZip h₈ z TI TO (rawInt h₅.objs.size) := hz₈
  have up : ∀ c o, c ≠ z → h₅.get? c = some o → h₈.get? c = some o := fun c o c1 e => hs₈.extBut _ _ c1 (hs₇.extBut _ _ c1 (Heap.get?_push_of_some _ e))
  have hT₈ : IsPair h₈ h₅.objs.size (.str ⟨#[c0]⟩ s.toks) y := hs₈.extBut _ _ (Nat.ne_of_gt hzlt) (hs₇.extBut _ _ (Nat.ne_of_gt hzlt) (Heap.get?_push_size _ rfl))
  have hz8 : h₈.objs.size = h₅.objs.size + 1 := by rw [hs₈.1, hs₇.1, Heap.size_push]
  rw [hsz] at hz₈ hT₈ hz8
  refine wpAny_pure ⟨_, rfl, ?_⟩
  show Q (.ref h₅.objs.size) _
  rw [hsz]
  exact hQ h₈ hz₈ (up _ _ D.TOz hTO₅) (let ⟨o, ho, r⟩ := h1₅; ⟨o, up _ o D.i1z ho, r⟩) (h2₅.at fun o e => up _ o D.i2z e) hT₈ hz8 fun c o c1 c2 c3 c4 e => up c o c1 (hk₅ c o c1 c2 c3 c4 e)

theorem zipS_next_end {z TI TO i1 i2 l1 l2 : Addr} {k1 k2 : Nat} {tx : Str} {tt : Tok} {ys : Array Value} {a b : Value} {Q : Fin → Shared → Prop} (hh : A.handled = none) (D : ZipApart z TI TO i1 i2 l1 l2)
    (hz : IsZip s.heap z TI TO .none) (hTI : IsPair s.heap TI (.ref i1) (.ref i2)) (hTO : IsPair s.heap TO a b)
    (h1 : s.heap.IsStrIter i1 "str_ascii_iterator" tx tt k1) (h2 : s.heap.IsTupleIter i2 l2 k2) (hl2 : s.heap.IsTuple l2 ys) (hend : tx.cps[k1]? = none ∨ ys[k2]? = none)
    (hE : ∀ h' e tk, (∀ c o, c ≠ z → c ≠ TO → c ≠ i1 → c ≠ i2 → s.heap.get? c = some o → h'.get? c = some o) → (∃ o, h'.get? e = some o ∧ o.cls = .type "StopIteration") → E (.ref e) { s with heap := h', toks := tk }) :
    wpAny (model prog w) A (Builtin.«zip.__next__» ⟨[.ref z], []⟩) Q E s := by
  show wpAny _ _ (field (.ref z) 2 >>= _) _ _ _
  refine wpAny_bind (wpAny_field hz rfl (x := .bool false) rfl ?_)
  show wpAny _ _ (field (.ref z) 3 >>= _) _ _ _
  refine wpAny_bind (wpAny_field hz rfl (x := .ref TI) rfl ?_)
  refine wpAny_bind (wpAny_seqItems hTI rfl ?_)
  show wpAny _ _ (Builtin.SmallTypes.ownedTupleIsFree (.ref z) >>= _) _ _ _
  refine wpAny_bind ?_
  unfold Builtin.SmallTypes.ownedTupleIsFree
  refine wpAny_bind (wpAny_field hz rfl (x := .none) rfl (wpAny_pure ?_))
  simp only [if_true]
  refine wpAny_bind (wpAny_rule ?_)
  refine wpAny_bind (wpAny_field hz rfl (x := .ref TO) rfl ?_)
  refine wpAny_bind (wpAny_setField_rec hz (by simp) fun h₁ hz₁ hs₁ => ?_)
  replace hz₁ : IsZip h₁ z TI TO .ellipsis := hz₁
  refine wpAny_bind ?_
  simp only [List.zipIdx_cons, List.zipIdx_nil, List.forIn_cons, List.forIn_nil]
  refine wpAny_bind (wpAny_bind (wpAny_onRaise ?_))
  show wpAny _ _ (Builtin.SmallTypes.nextOf (.ref i1) >>= _) _ _ _
  cases hx : tx.cps[k1]? with
  | none =>
    refine wpAny_bind (wpAny_nextOf_ascii_end hh (h1.extBut hs₁.extBut D.i1z) hx fun h₂ e hs₂ he => ?_)
    obtain ⟨oe, hoe, hce⟩ := he
    have hz₂ : IsZip h₂ z TI TO .ellipsis := hs₂ _ _ D.i1z.symm hz₁
    have hez : e ≠ z := fun x => by subst x; rw [hz₂] at hoe; cases hoe; simp at hce
    refine wpAny_setField_rec hz₂ (by simp) fun h₃ _ hs₃ => hE h₃ e _ (fun c o c1 _ c3 _ x => hs₃.extBut _ _ c1 (hs₂ _ _ c3 (hs₁.extBut _ _ c1 x))) ⟨oe, hs₃.extBut _ _ hez hoe, hce⟩
  | some c0 =>
    have hy : ys[k2]? = none := by rcases hend with h | h; rw [hx] at h; cases h; exact h
    refine wpAny_bind (wpAny_nextOf_ascii_item (h1.extBut hs₁.extBut D.i1z) hx fun h₂ h1₂ hs₂ => wpAny_pure ?_)
    have hTO₂ : IsPair h₂ TO a b := hs₂.extBut _ _ D.TOi1 (hs₁.extBut _ _ D.TOz hTO)
    refine wpAny_bind (wpAny_seqItems hTO₂ rfl ?_)
    refine wpAny_bind (wpAny_updateSeq_pair hTO₂ fun h₃ hTO₃ hs₃ => ?_)
    refine wpAny_bind (wpAny_letGo (wpAny_pure ?_))
    refine wpAny_bind (wpAny_bind (wpAny_onRaise ?_))
    show wpAny _ _ (Builtin.SmallTypes.nextOf (.ref i2) >>= _) _ _ _
    refine wpAny_bind (nextOf_tuple_end hh (((h2.extBut hs₁.extBut D.i2z).extBut hs₂.extBut D.i12.symm).extBut hs₃.extBut D.TOi2.symm)
      (((hl2.extBut hs₁.extBut D.l2z).extBut hs₂.extBut D.l2i1).extBut hs₃.extBut D.l2TO) hy fun h₄ e hs₄ he => ?_)
    obtain ⟨oe, hoe, hce⟩ := he
    have hz₄ : IsZip h₄ z TI TO .ellipsis := hs₄ _ _ D.i2z.symm (hs₃.extBut _ _ D.TOz.symm (hs₂.extBut _ _ D.i1z.symm hz₁))
    have hez : e ≠ z := fun x => by subst x; rw [hz₄] at hoe; cases hoe; simp at hce
    refine wpAny_setField_rec hz₄ (by simp) fun h₅ _ hs₅ => hE h₅ e _ (fun c o c1 c2 c3 c4 x => hs₅.extBut _ _ c1 (hs₄ _ _ c4 (hs₃.extBut _ _ c2 (hs₂.extBut _ _ c3 (hs₁.extBut _ _ c1 x))))) ⟨oe, hs₅.extBut _ _ hez hoe, hce⟩

theorem pyNext_zipS_item {z TI TO i1 i2 l1 l2 : Addr} {k1 k2 c0 : Nat} {tx : Str} {tt : Tok} {ys : Array Value} {y a b : Value} {Q : Option Value → Shared → Prop} (D : ZipApart z TI TO i1 i2 l1 l2)
    (hz : IsZip s.heap z TI TO .none) (hTI : IsPair s.heap TI (.ref i1) (.ref i2)) (hTO : IsPair s.heap TO a b)
    (h1 : s.heap.IsStrIter i1 "str_ascii_iterator" tx tt k1) (h2 : s.heap.IsTupleIter i2 l2 k2) (hl2 : s.heap.IsTuple l2 ys) (hx : tx.cps[k1]? = some c0) (hy : ys[k2]? = some y)
    (hQ : ∀ h', IsZip h' z TI TO (rawInt s.heap.objs.size) → IsPair h' TO (.str ⟨#[c0]⟩ s.toks) y → h'.IsStrIter i1 "str_ascii_iterator" tx tt (k1 + 1) → h'.IsTupleIter i2 l2 (k2 + 1) → IsPair h' s.heap.objs.size (.str ⟨#[c0]⟩ s.toks) y → h'.objs.size = s.heap.objs.size + 1 →
      (∀ c o, c ≠ z → c ≠ TO → c ≠ i1 → c ≠ i2 → s.heap.get? c = some o → h'.get? c = some o) → Q (some (.ref s.heap.objs.size)) { s with heap := h', toks := s.toks + 1 }) :
    wpAny (model prog w) A (pyNext (.ref z)) Q E s := by
  have hT : s.TypeIs (.ref z) "zip" := ⟨_, hz, rfl⟩
  unfold pyNext
  exact wpAny_bind (wpAny_attempt (wpAny_callSpecial?_slot (name := Str.ofString "__next__") hT F.slot_zip_next
    (wpAny_call_entry F.slot_zip_next hT F.entry_zip_next
      (zipS_next_item D hz hTI hTO h1 h2 hl2 hx hy fun h' a1 a2 a3 a4 a5 a6 a7 => wpAny_pure (hQ h' a1 a2 a3 a4 a5 a6 a7)) (F.args_zip_next_1 _))))

theorem pyNext_zipS_end {z TI TO i1 i2 l1 l2 : Addr} {k1 k2 : Nat} {tx : Str} {tt : Tok} {ys : Array Value} {a b : Value} {Q : Option Value → Shared → Prop} (hh : A.handled = none) (D : ZipApart z TI TO i1 i2 l1 l2)
    (hz : IsZip s.heap z TI TO .none) (hTI : IsPair s.heap TI (.ref i1) (.ref i2)) (hTO : IsPair s.heap TO a b)
    (h1 : s.heap.IsStrIter i1 "str_ascii_iterator" tx tt k1) (h2 : s.heap.IsTupleIter i2 l2 k2) (hl2 : s.heap.IsTuple l2 ys) (hend : tx.cps[k1]? = none ∨ ys[k2]? = none)
    (hQ : ∀ h' tk, (∀ c o, c ≠ z → c ≠ TO → c ≠ i1 → c ≠ i2 → s.heap.get? c = some o → h'.get? c = some o) → Q none { s with heap := h', toks := tk }) : wpAny (model prog w) A (pyNext (.ref z)) Q E s := by
  have hT : s.TypeIs (.ref z) "zip" := ⟨_, hz, rfl⟩
  unfold pyNext
  refine wpAny_bind (wpAny_attempt (wpAny_callSpecial?_slot (name := Str.ofString "__next__") hT F.slot_zip_next
    (wpAny_call_entry F.slot_zip_next hT F.entry_zip_next (zipS_next_end hh D hz hTI hTO h1 h2 hl2 hend fun h' e tk hk he => ?_) (F.args_zip_next_1 _))))
  obtain ⟨o, ho, hc⟩ := he
  refine wpAny_bind (wpAny_isInstance (T := "StopIteration") (b := true) ⟨o, ho, hc⟩ isSubtype_stop ?_)
  exact wpAny_pure (hQ _ _ hk)
end


abbrev zipSH1 (h : Heap) (tx : Str) (tt : Tok) : Heap := h.push { cls := .type "str_ascii_iterator", data := .fields #[.str tx tt, .int 0 0] }
abbrev zipSH2 (h : Heap) (tx : Str) (tt : Tok) (l2 : Addr) : Heap := (zipSH1 h tx tt).push { cls := .type "tuple_iterator", data := .fields #[.ref l2, .int 0 0] }
abbrev zipSH3 (h : Heap) (tx : Str) (tt : Tok) (l2 : Addr) : Heap := (zipSH2 h tx tt l2).push { cls := .type "tuple", data := .seq #[.ref h.objs.size, .ref (zipSH1 h tx tt).objs.size] }
abbrev zipSH4 (h : Heap) (tx : Str) (tt : Tok) (l2 : Addr) : Heap := (zipSH3 h tx tt l2).push { cls := .type "tuple", data := .seq #[.none, .none] }
abbrev zipSH5 (h : Heap) (tx : Str) (tt : Tok) (l2 : Addr) : Heap := (zipSH4 h tx tt l2).push { cls := .type "zip", data := .fields #[.none, .bool false, .bool false, .ref (zipSH2 h tx tt l2).objs.size, .ref (zipSH3 h tx tt l2).objs.size] }
theorem meets_zipS_new (tx : Str) (tt : Tok) (l2 : Addr) (ys : Array Value) (ha : tx.cps.all (· < 128) = true) :
    Meets (Builtin.«zip.__new__» ⟨[.type "zip", .str tx tt, .ref l2], []⟩) (fun _ R s => s.heap.IsTuple l2 ys ∧
      R (.ok (.ret (.ref (zipSH4 s.heap tx tt l2).objs.size))) { s with heap := zipSH5 s.heap tx tt l2 }) :=
  .of_wp fun prog w A R s h => by
    obtain ⟨hp, g, d, tk, os⟩ := s; obtain ⟨hl2, h⟩ := h
    have hsub := sub_zip
    have hL2 : Heap.IsTuple (Shared.heap ⟨hp.push { cls := .type "str_ascii_iterator", data := .fields #[.str tx tt, .int 0 0] }, g, d, tk, os⟩) l2 ys := Heap.IsTuple.push hl2 _
    wp_walk using wpAny_pyIter_ascii ha, wpAny_pyIter_tuple hL2
    exact ⟨_, rfl, h⟩
section
variable {prog : Program} {w : World} {A : Around} {E : Value → Shared → Prop} {s : Shared}
theorem call_zipS {tx : Str} {tt : Tok} {l2 : Addr} {ys : Array Value} {Q : Value → Shared → Prop} (ha : tx.cps.all (· < 128) = true) (hl2 : s.heap.IsTuple l2 ys)
    (h : ∀ h', IsZip h' (s.heap.objs.size + 4) (s.heap.objs.size + 2) (s.heap.objs.size + 3) .none → IsPair h' (s.heap.objs.size + 2) (.ref s.heap.objs.size) (.ref (s.heap.objs.size + 1)) →
      IsPair h' (s.heap.objs.size + 3) .none .none → h'.IsStrIter s.heap.objs.size "str_ascii_iterator" tx tt 0 → h'.IsTupleIter (s.heap.objs.size + 1) l2 0 → h'.objs.size = s.heap.objs.size + 5 →
      (∀ c o, s.heap.get? c = some o → h'.get? c = some o) → Q (.ref (s.heap.objs.size + 4)) { s with heap := h' }) :
    wpAny (model prog w) A (call (.type "zip") [.str tx tt, .ref l2]) Q E s := by
  refine callType_new F.called_zip (by decide) (F.typeCall_zip_2 _ _) (F.newCall_zip_2 _ _) (fun obj => F.args_object_init_3 obj _ _) F.entry_zip_new
    (meets_zipS_new tx tt l2 ys ha) ⟨hl2, ?_⟩
  have z1 : (zipSH1 s.heap tx tt).objs.size = s.heap.objs.size + 1 := Heap.size_push ..
  have z2 : (zipSH2 s.heap tx tt l2).objs.size = s.heap.objs.size + 2 := by rw [Heap.size_push, z1]
  have z3 : (zipSH3 s.heap tx tt l2).objs.size = s.heap.objs.size + 3 := by rw [Heap.size_push, z2]
  have z4 : (zipSH4 s.heap tx tt l2).objs.size = s.heap.objs.size + 4 := by rw [Heap.size_push, z3]
  have z5 : (zipSH5 s.heap tx tt l2).objs.size = s.heap.objs.size + 5 := by rw [Heap.size_push, z4]
  have g5 : (zipSH5 s.heap tx tt l2).get? (zipSH4 s.heap tx tt l2).objs.size = some _ := Heap.get?_push_size _ rfl
  have g4 : (zipSH5 s.heap tx tt l2).get? (zipSH3 s.heap tx tt l2).objs.size = some _ := Heap.get?_push_of_some _ (Heap.get?_push_size _ rfl)
  have g3 : (zipSH5 s.heap tx tt l2).get? (zipSH2 s.heap tx tt l2).objs.size = some _ := Heap.get?_push_of_some _ (Heap.get?_push_of_some _ (Heap.get?_push_size _ rfl))
  have g2 : (zipSH5 s.heap tx tt l2).get? (zipSH1 s.heap tx tt).objs.size = some _ := Heap.get?_push_of_some _ (Heap.get?_push_of_some _ (Heap.get?_push_of_some _ (Heap.get?_push_size _ rfl)))
  have g1 : (zipSH5 s.heap tx tt l2).get? s.heap.objs.size = some _ := Heap.get?_push_of_some _ (Heap.get?_push_of_some _ (Heap.get?_push_of_some _ (Heap.get?_push_of_some _ (Heap.get?_push_size _ rfl))))
  show _ ∧ _
  rw [z2, z3, z4] at g5
  rw [z1, z2] at g3
  rw [z3] at g4
  rw [z1] at g2
  rw [z4]
  exact ⟨⟨_, g5, rfl⟩, h _ g5 g3 g4 ⟨_, g1, rfl, rfl⟩ ⟨_, g2, rfl, rfl⟩ z5 fun c o x =>
    Heap.get?_push_of_some _ (Heap.get?_push_of_some _ (Heap.get?_push_of_some _ (Heap.get?_push_of_some _ (Heap.get?_push_of_some _ x))))⟩
end
end RZ
set_option Elab.async false
set_option linter.all false
set_option maxRecDepth 100000
set_option maxHeartbeats 1000000
namespace ZS
open PySem PySem.Spec PyProof.Rows L2
/-- a text's signs and the items of the tuple at b, in new pairs -/
def Itzs (K : PySem.W.Frag) (z : Str) (b : Addr) : It :=
  ⟨fun i H => ∃ (ys : List V) (c : Nat) (y : V), SqT K H b ys ∧ z.cps[i]? = some c ∧ ys[i]? = some y,
    fun i H v H' => ∃ T c y, v = .ref T ∧ H T = none ∧ H' = upd H T (.tup [.str ⟨#[c]⟩, y]) ∧ z.cps[i]? = some c ∧ ∀ ys, SqT K H b ys → ys[i]? = some y,
    fun i H => ∃ ys : List V, SqT K H b ys ∧ (z.cps.size ≤ i ∨ ys.length ≤ i)⟩
theorem turn_zipS {P : Program} {w : World} {K : PySem.W.Frag} {elts : List Expr} {kk : Nat} {tpos : Pos} {tx : Str} {tt : Tok} {a b z TI TO i1 i2 : Addr} (D : ZipApart z TI TO i1 i2 a b) :
    Turn P w K (.Tuple elts kk tpos) (Itzs K tx b) [z, TI, TO, i1, i2] z (fun i h => IsZip h z TI TO .none ∧ IsPair h TI (.ref i1) (.ref i2) ∧ (∃ x y, IsPair h TO x y) ∧ h.IsStrIter i1 "str_ascii_iterator" tx tt i ∧ h.IsTupleIter i2 b i) where
  mem := by simp
  obj := fun i h st c hc => by
    obtain ⟨hz, hTI, ⟨x, y, hTO⟩, ⟨o1, e1, _, d1⟩, ⟨o2, e2, _, d2⟩⟩ := st
    rcases (show c = z ∨ c = TI ∨ c = TO ∨ c = i1 ∨ c = i2 by simpa using hc) with rfl | rfl | rfl | rfl | rfl
    · exact ⟨_, hz, fun v q => nomatch q⟩
    · exact ⟨_, hTI, fun v q => nomatch q⟩
    · exact ⟨_, hTO, fun v q => nomatch q⟩
    · exact ⟨o1, e1, fun v q => by rw [d1] at q; cases q⟩
    · exact ⟨o2, e2, fun v q => by rw [d2] at q; cases q⟩
  keep := fun i h h' st k => by
    obtain ⟨hz, hTI, ⟨x, y, hTO⟩, ⟨o1, e1, r1⟩, h2⟩ := st
    exact ⟨k z (by simp) _ hz, k TI (by simp) _ hTI, ⟨x, y, k TO (by simp) _ hTO⟩, ⟨o1, k i1 (by simp) _ e1, r1⟩, h2.at fun o q => k i2 (by simp) o q⟩
  item := by
    intro X hP hw hK hc i pins s σ H E I hf st hg
    subst hP hw hK
    obtain ⟨hz, hTI, ⟨x0, y0, hTO⟩, h1, h2⟩ := st
    obtain ⟨ys, c, y, hqy, hx, hy⟩ := hg
    obtain ⟨its2, rv2, p2, _⟩ := I.tuple hqy
    obtain ⟨u2, hu2, ru2⟩ := rv2.get hy
    have hzl : z < s.heap.objs.size := Heap.lt_size hz
    refine RZ.pyNext_zipS_item D hz hTI hTO h1 h2 p2 (c0 := c) (y := u2) hx (by simpa using hu2) fun h' z' TO' h1' h2' hT hsz hk => ?_
    refine ⟨_, rfl, wpAny_letOwnedTupleGo_zip (s := { s with heap := h', toks := s.toks + 1 }) z' fun h'' z'' sb => ?_⟩
    have hT2 : h''.get? s.heap.objs.size = some { cls := .type "tuple", data := .seq #[.str ⟨#[c]⟩ s.toks, u2] } := (sb.2 _ (Nat.ne_of_gt hzl)).trans hT
    have new : ObjOk X.prog X.w (upd H s.heap.objs.size (.tup [.str ⟨#[c]⟩, y])) h'' s.heap.objs.size (.tup [.str ⟨#[c]⟩, y]) :=
      ⟨by show 2 ≤ sizeLine; decide, [.str ⟨#[c]⟩ s.toks, u2], .cons ⟨_, rfl⟩ (.cons ru2 .nil), ⟨_, hT2, rfl, _, rfl⟩⟩
    have I1 : Inv X pins σ (upd H s.heap.objs.size (.tup [.str ⟨#[c]⟩, y])) { s with heap := h'', toks := s.toks + 1 } :=
      I.turnedNew (t' := s.toks + 1) (ch := [z, TI, TO, i1, i2]) (fun c o hb q => (sb.2 c (fun q' => hb (by simp [q']))).trans (hk c o (fun q' => hb (by simp [q'])) (fun q' => hb (by simp [q'])) (fun q' => hb (by simp [q'])) (fun q' => hb (by simp [q'])) q)) hf (Nat.le_refl _) new
    refine ⟨.ref s.heap.objs.size, _, I1, rfl, ⟨_, c, y, rfl, I.hok.fresh (Nat.le_refl _), rfl, hx, fun l hl => by rw [I.tuple_inj hl hqy]; exact hy⟩, ⟨z'', ?_, ⟨.str ⟨#[c]⟩ s.toks, u2, ?_⟩, ?_, ?_⟩, fun d hcm => ?_⟩
    · exact (sb.2 _ D.TIz).trans (hk _ _ D.TIz D.TITO D.TIi1 D.TIi2 hTI)
    · exact (sb.2 _ D.TOz).trans TO'
    · obtain ⟨o1, e1, r1⟩ := h1'
      exact ⟨o1, (sb.2 _ D.i1z).trans e1, r1⟩
    · exact h2'.at fun o q => (sb.2 _ D.i2z).trans q
    · have hlt : d < s.heap.objs.size := by
        rcases (show d = z ∨ d = TI ∨ d = TO ∨ d = i1 ∨ d = i2 by simpa using hcm) with rfl | rfl | rfl | rfl | rfl
        · exact hzl
        · exact Heap.lt_size hTI
        · exact Heap.lt_size hTO
        · obtain ⟨_, e1, _⟩ := h1; exact Heap.lt_size e1
        · obtain ⟨_, e2, _⟩ := h2; exact Heap.lt_size e2
      rw [upd_ne (Nat.ne_of_lt hlt)]
      exact (hf d hcm).1
  done := by
    intro X hP hw hK hc i pins s σ H E I hf st hg
    subst hP hw hK
    obtain ⟨hz, hTI, ⟨x0, y0, hTO⟩, h1, h2⟩ := st
    obtain ⟨ys, hqy, hend⟩ := hg
    obtain ⟨its2, rv2, p2, _⟩ := I.tuple hqy
    have l2 := rv2.length
    have he : tx.cps[i]? = none ∨ its2.toArray[i]? = none := by
      rcases hend with q | q
      · exact .inl (Array.getElem?_eq_none q)
      · exact .inr (by simp; omega)
    exact RZ.pyNext_zipS_end (I.ok.hd hc) D hz hTI hTO h1 h2 p2 he fun h' tk hk => ⟨rfl, I.turnedL (t' := tk) (ch := [z, TI, TO, i1, i2]) (fun c o hb q =>
      hk c o (fun q' => hb (by simp [q'])) (fun q' => hb (by simp [q'])) (fun q' => hb (by simp [q'])) (fun q' => hb (by simp [q'])) q) hf⟩
  self := fun A i s Q E st h => wpAny_pyIter_zip st.1 h
def iZipS (K : PySem.W.Frag) (ta : TA) : TI := fun σ H R => ta σ H fun vs H1 => ∃ (z : Str) (b : Addr) (ys : List V), vs = [.str z, .ref b] ∧ z.cps.all (· < 128) = true ∧ SqT K H1 b ys ∧ R (Itzs K z b) H1
theorem pi_zipS {X : Cx} {e e2 : Expr} {ta : TA} {p pos tpos : Pos} {elts : List Expr} {kk : Nat} (hg : Gl X "zip") (hm : X.mg "zip" = none) (ha : PA X [e, e2] ta)
    (hs : starEach [e, e2] X.env = (false, eval e X.env) :: starEach [e2] X.env := by rfl) (hpl : (backTo pos (starEach [e2] X.env)).any (·.1) = false := by rfl) :
    PI X (.Tuple elts kk tpos) (.Call (.Name "zip" p) [e, e2] [] pos) (iZipS X.K ta) := by
  refine ⟨fun pins s σ H R I h => ?_⟩
  refine Call_ (ld_blt I hg hm PyProof.Rows.boot_zip (PyProof.Rows.callWith_type1 (thn (ha.run pos pins s σ H _ I h) fun us s1 ⟨vs, H1, I1, r1, q1⟩ => ?_) hs hpl))
  obtain ⟨z, b, ys, ex, hz, hqy, q⟩ := q1
  subst ex
  obtain ⟨u1, u2, rfl, ⟨tt, rfl⟩, rb⟩ := vals2 r1
  obtain rfl : u2 = Value.ref b := rb
  obtain ⟨its2, rv2, p2, _⟩ := I1.tuple hqy
  obtain ⟨o2, ho2, _⟩ := id p2
  have fresh5 : ∀ c, c ∈ [s1.heap.objs.size + 4, s1.heap.objs.size + 2, s1.heap.objs.size + 3, s1.heap.objs.size, s1.heap.objs.size + 1] → FpOk X pins H1 c := fun c hcm => by
    have hle : s1.heap.objs.size ≤ c := by
      simp only [List.mem_cons, List.not_mem_nil, or_false] at hcm
      omega
    exact I1.fpOk hle (I1.hok.fresh hle)
  refine RZ.call_zipS hz (show s1.heap.IsTuple b its2.toArray from p2) fun h' hzp hTI hTO h1 h2 hsz hk => wpAny_pyIter_zip hzp ?_
  have I2 : Inv X pins σ H1 { s1 with heap := h' } := I1.kept (t' := s1.toks) hk
  exact ⟨s1.heap.objs.size + 4, [s1.heap.objs.size + 4, s1.heap.objs.size + 2, s1.heap.objs.size + 3, s1.heap.objs.size, s1.heap.objs.size + 1], _, _, H1, rfl, I2, turn_zipS (PySem.W.ktu_apart s1.heap.objs.size b b (Heap.lt_size ho2) (Heap.lt_size ho2)), ⟨hzp, hTI, ⟨_, _, hTO⟩, h1, h2⟩, fresh5, q⟩
theorem walk_zipS {K : PySem.W.Frag} {z : Str} {b : Addr} {ys : List V} {n : Nat} (hn : n = min z.cps.size ys.length) : Walk (Itzs K z b) n (fun H => SqT K H b ys) (YPair (fun i => z.cps[i]?.map fun c => .str ⟨#[c]⟩) (fun i => ys[i]?)) := by
  subst hn
  refine ⟨fun i _ hi q => ?_, fun _ q => ⟨ys, q, by omega⟩, fun i H v H' _ q y => ?_⟩
  · have h1 : i < z.cps.size := by omega
    have h2 : i < ys.length := by omega
    exact ⟨ys, z.cps[i], ys[i], q, by simp [h1], by simp [h2]⟩
  · obtain ⟨T, c, y, h1, h2, h3, h4, h5⟩ := y
    exact ⟨T, .str ⟨#[c]⟩, y, h1, h2, h3, by simp [h4], h5 ys q⟩
end ZS
set_option Elab.async false
set_option linter.all false
set_option maxRecDepth 100000
set_option maxHeartbeats 0
namespace K06
open PySem PySem.Spec PyProof.Rows L2
abbrev FnP (K : PySem.W.Frag) (x : Str) (st : Stmt) (f : Addr) (fd : FuncData) : Prop := FunD K x x (defArgs st) (defBody st) (defScope st) [] [] f fd
/-- the globals that stay free -/
structure Txt (K : PySem.W.Frag) (mg : Str → Option Value) : Prop where
  isi : mg "isinstance" = none
  len : mg "len" = none
  all : mg "all" = none
  str : mg "str" = none
  max : mg "max" = none
  min : mg "min" = none
  int : mg "int" = none
  rng : mg "range" = none
  tup : mg "tuple" = none
  any : mg "any" = none
  bl : mg "bool" = none
  lst : mg "list" = none
  zip : mg "zip" = none
  set : mg "set" = none
  sorted : mg "sorted" = none
abbrev sSource : Stmt := top 43
abbrev sDraw : Stmt := top 44
abbrev nSource : List Str := ["_law_script", "_law_turn", "_law_cell", "_law_number", "_law_seed"]
abbrev nDraw : List Str := ["_law_source_here", "_law_amount", "_law_digit"]
def rS : Int := 2147483647
/-- what a source holds -/
def Src (H : Hp) (p : Addr) : Prop := ∃ N S : Int, H p = some (.lst [.int N, .int S]) ∧ 0 ≤ N ∧ 0 ≤ S ∧ S < 2147483647
def spSource (K : PySem.W.Frag) : Sp := fun vs H Q _ => ∃ (a : Addr) (ns : List Int) (t : Int), vs = [.ref a, .int t] ∧ SqL K H a (ns.map V.int) ∧ 0 ≤ t ∧ t < 100 ∧
  ∀ p N S, H p = none → 0 ≤ N → 0 ≤ S → S < 2147483647 → Q (.ref p) (upd H p (.lst [.int N, .int S]))
def spDraw : Sp := fun vs H Q _ => ∃ (p : Addr) (N S m : Int), vs = [.ref p, .int m] ∧ H p = some (.lst [.int N, .int S]) ∧ 0 ≤ N ∧ 0 ≤ S ∧ S < 2147483647 ∧ 0 < m ∧ m < 1073741824 ∧
  ∀ d N' S', 0 ≤ d → d < m → 0 ≤ N' → 0 ≤ S' → S' < 2147483647 → Q (.int d) (upd H p (.lst [.int N', .int S']))
section
variable {P : Program} {w : World} {K : PySem.W.Frag} {mg : Str → Option Value} {base : Heap} {f : Addr} {fd : FuncData}
theorem scSource : FnScope nSource ["_law_script", "_law_turn"] (defScope sSource) := ⟨rfl, rfl, rfl, by decide +kernel, rfl, by decide +kernel, by decide +kernel⟩
theorem scDraw : FnScope nDraw ["_law_source_here", "_law_amount"] (defScope sDraw) := ⟨rfl, rfl, rfl, by decide +kernel, rfl, by decide +kernel, by decide +kernel⟩
theorem boot_len : bootBuiltins "len" = some (.builtin "len") := by kernel_rfl
theorem boot_max : bootBuiltins "max" = some (.builtin "max") := by kernel_rfl
theorem boot_int : bootBuiltins "int" = some (.type "int") := by kernel_rfl
theorem atI_int {ns : List Int} {t : Int} (h0 : 0 ≤ t) (h1 : t < (ns.map V.int).length) : ∃ c, L2.atI (ns.map V.int) t = some (.int c) := by
  obtain ⟨k, rfl⟩ := Int.eq_ofNat_of_zero_le h0
  have hk : k < ns.length := by rw [List.length_map] at h1; exact Int.ofNat_lt.mp h1
  exact ⟨ns[k], atI_nat (by rw [List.getElem?_map, List.getElem?_eq_getElem hk]; rfl)⟩
theorem two_ok : 2 ≤ sizeLine := by rw [sizeLine_eq]; decide
theorem ok_source (F : FnP K "_law_source" sSource f fd) (T : Txt K mg) : FnOk P w K mg base CX0 1 f fd ["_law_script", "_law_turn"] (spSource K) := by
  refine F.ok scSource (fun vs H Q E h => ?_) (fun cdv A outer s H vs Q E hr h => ?_)
  · obtain ⟨a, ns, t, rfl, _⟩ := h
    rfl
  · obtain ⟨a, ns, t, rfl, hS, h0, h1, hQ⟩ := h
    refine ⟨_, PSs.nox (pss_cons (ps_set (i := 2) scSource.nd rfl (Or.inl rfl) pe_int)
      (Evl.pss_cut (ps_if (pt_cmpR op_lt (pv 1) (pe_callB call_len rfl T.len boot_len (pa_cons (pv 0) pa_nil)) (nomark _)) (pss_one (ps_set (i := 2) scSource.nd rfl (Or.inl rfl) (pe_ix ix_list (pv 0) (pv 1) (fun _ _ => rfl)))) pss_nil)
      (pss_cons (ps_set (i := 3) scSource.nd rfl (Or.inl rfl) (pe_callB (call_max2 rfl) rfl T.max boot_max (pa_cons (pv 2) (pa_cons (pe_op op_sub (pe_un un_neg pe_int) (pv 2)) pa_nil))))
      (pss_cons (ps_set (i := 4) scSource.nd rfl (Or.inl rfl) (pe_op op_mod (pe_callTy call_int1 rfl T.int boot_int (pa_cons (pe_op op_add (pe_op op_add (pe_op op_mul (pe_op op_mod (pe_callTy call_int1 rfl T.int boot_int (pa_cons (pv 3) pa_nil)) pe_int) pe_int) (pe_op op_mul pe_int (pv 1))) pe_int) pa_nil)) pe_int))
      (Evl.pss_cut (ps_if (pt_cmpR op_lt (pv 3) (pe_op op_pow pe_int pe_int) (nomark _)) (pss_one (ps_set (i := 3) scSource.nd rfl (Or.inl rfl) pe_int)) pss_nil)
      (pss_one (ps_ret (pe_lst (pa_cons (pv 3) (pa_cons (pv 4) pa_nil)))))))))), ?_⟩
    refine ⟨fun σ' H' => ∃ c : Int, σ' = [some (.ref a), some (.int t), some (.int c), none, none] ∧ H' = H, ?_, ?_⟩
    · refine ⟨_, rfl, _, rfl, _, _, rfl, Or.inl ⟨_, hS, rfl⟩, _, _, rfl, rfl, _, rfl, ?_⟩
      refine ite2 (fun hlt => ?_) (fun _ => ⟨0, rfl, rfl⟩)
      obtain ⟨c, hc⟩ := atI_int h0 (of_decide_eq_true hlt)
      exact ⟨_, rfl, _, rfl, a, _, t, .int c, rfl, rfl, hS, hc, c, rfl, rfl⟩
    · rintro σ' H' ⟨c, rfl, rfl⟩
      refine ⟨_, rfl, _, rfl, _, rfl, _, _, rfl, rfl, _, _, rfl, ?_⟩
      have hN : 0 ≤ (if -1 - c > c then -1 - c else c) := by split <;> omega
      generalize (if -1 - c > c then -1 - c else c) = N at hN
      refine ⟨_, rfl, Or.inl ⟨_, rfl, _, _, rfl, rfl, (by decide : (0 : Int) < 2147483629), _, _, rfl, rfl, Or.inr ⟨by decide, by decide⟩, _, rfl, _, _, rfl, rfl, Or.inl ⟨by decide, by decide⟩, _, _, rfl, rfl, _, _, rfl, rfl, Or.inl ⟨_, rfl, _, _, rfl, rfl, (by decide : (0 : Int) < 2147483647), ?_⟩⟩⟩
      have hS1 : 0 ≤ (N % 2147483629 * 16807 + 104729 * t + 11) % 2147483647 := Int.emod_nonneg _ (by decide)
      have hS2 : (N % 2147483629 * 16807 + 104729 * t + 11) % 2147483647 < 2147483647 := Int.emod_lt_of_pos _ (by decide)
      refine ⟨fun σ' H1 => ∃ M S : Int, 0 ≤ M ∧ 0 ≤ S ∧ S < 2147483647 ∧ σ' = [some (.ref a), some (.int t), some (.int c), some (.int M), some (.int S)] ∧ H1 = H', ?_, ?_⟩
      · refine ⟨_, rfl, _, _, rfl, rfl, ⟨by decide, by decide, by decide⟩, _, _, rfl, rfl, _, rfl, ?_⟩
        exact ite2 (fun _ => ⟨0, _, Int.le_refl _, hS1, hS2, rfl, rfl⟩) (fun _ => ⟨N, _, hN, hS1, hS2, rfl, rfl⟩)
      · rintro σ' H1 ⟨M, S, hM, q1, q2, rfl, rfl⟩
        exact ⟨_, rfl, _, rfl, two_ok, fun p hp => hQ p M S hp hM q1 q2⟩
theorem ok_draw (F : FnP K "_law_draw" sDraw f fd) (T : Txt K mg) : FnOk P w K mg base CX0 1 f fd ["_law_source_here", "_law_amount"] spDraw := by
  refine F.ok scDraw (fun vs H Q E h => ?_) (fun cdv A outer s H vs Q E hr h => ?_)
  · obtain ⟨p, N, S, m, rfl, _⟩ := h
    rfl
  · obtain ⟨p, N, S, m, rfl, hp, hN, hS1, hS2, hm1, hm2, hQ⟩ := h
    refine ⟨_, PSs.nox (pss_cons (ps_if (pt_cmpR op_gt (pe_ix ix_list (pv 0) pe_int (fun _ _ => rfl)) pe_int (nomark _))
        (pss_cons (ps_set (i := 2) scDraw.nd rfl (Or.inl rfl) (pe_op op_mod (pe_callTy call_int1 rfl T.int boot_int (pa_cons (pe_ix ix_list (pv 0) pe_int (fun _ _ => rfl)) pa_nil)) (pv 1)))
        (pss_cons (ps_asg (pe_op op_fdiv (pe_ix ix_list (pv 0) pe_int (fun _ _ => rfl)) (pv 1)) (pg_sub (pv 0) pe_int set_list))
        (pss_one (ps_ret (pv 2))))) pss_nil)
      (pss_cons (ps_asg (pe_op op_mod (pe_callTy call_int1 rfl T.int boot_int (pa_cons (pe_op op_add (pe_op op_mul (pe_ix ix_list (pv 0) pe_int (fun _ _ => rfl)) pe_int) pe_int) pa_nil)) pe_int) (pg_sub (pv 0) pe_int set_list))
      (pss_one (ps_ret (pe_op op_mod (pe_callTy call_int1 rfl T.int boot_int (pa_cons (pe_op op_fdiv (pe_op op_mod (pe_callTy call_int1 rfl T.int boot_int (pa_cons (pe_op op_mul (pe_ix ix_list (pv 0) pe_int (fun _ _ => rfl)) (pe_ix ix_list (pv 0) pe_int (fun _ _ => rfl))) pa_nil)) pe_int) pe_int) pa_nil)) (pv 1)))))), ?_⟩
    have hL : SqL K H p [.int N, .int S] := SqL.of hp
    refine ⟨_, rfl, p, _, 0, .int N, rfl, rfl, hL, rfl, _, _, rfl, rfl, _, rfl, ?_⟩
    refine ite2 (fun h0 => ?_) (fun _ => ?_)
    · refine ⟨_, rfl, p, _, 0, .int N, rfl, rfl, hL, rfl, Or.inl ⟨_, rfl, _, rfl, _, _, rfl, rfl, hm1, ?_⟩⟩
      refine ⟨_, rfl, p, _, 0, .int N, rfl, rfl, hL, rfl, _, rfl, _, _, rfl, rfl, ⟨hm1, hm2⟩, _, rfl, p, _, 0, 0, rfl, rfl, hp, rfl, _, rfl, ?_⟩
      exact hQ _ _ _ (Int.emod_nonneg _ (Int.ne_of_gt hm1)) (Int.emod_lt_of_pos _ hm1) (Int.ediv_nonneg hN (Int.le_of_lt hm1)) hS1 hS2
    · have e1 : 0 ≤ (S * 48271 + 11) % 2147483647 := Int.emod_nonneg _ (by decide)
      have e2 : (S * 48271 + 11) % 2147483647 < 2147483647 := Int.emod_lt_of_pos _ (by decide)
      refine ⟨_, rfl, p, _, 1, .int S, rfl, rfl, hL, rfl, _, _, rfl, rfl, Or.inr ⟨by decide, by decide⟩, _, _, rfl, rfl, Or.inl ⟨_, rfl, _, _, rfl, rfl, (by decide : (0 : Int) < 2147483647), ?_⟩⟩
      refine ⟨_, rfl, p, _, 1, 1, rfl, rfl, hp, rfl, ?_⟩
      have hL2 : SqL K (upd H p (.lst [.int N, .int ((S * 48271 + 11) % 2147483647)])) p [.int N, .int ((S * 48271 + 11) % 2147483647)] := SqL.of upd_same
      refine ⟨_, rfl, p, _, 1, .int ((S * 48271 + 11) % 2147483647), rfl, rfl, hL2, rfl, _, rfl, p, _, 1, .int ((S * 48271 + 11) % 2147483647), rfl, rfl, hL2, rfl, _, _, rfl, rfl, Or.inl ⟨by omega, by omega⟩, Or.inl ⟨_, rfl, _, _, rfl, rfl, (by decide : (0 : Int) < 2147483629), _, _, rfl, rfl, ⟨by decide, by decide⟩, Or.inl ⟨_, rfl, _, rfl, _, _, rfl, rfl, hm1, ?_⟩⟩⟩
      exact hQ _ _ _ (Int.emod_nonneg _ (Int.ne_of_gt hm1)) (Int.emod_lt_of_pos _ hm1) hN e1 e2

/-! ### the package's functions -/
abbrev sName : Stmt := top 16
abbrev sType : Stmt := top 17
abbrev nName : List Str := ["value", "sign"]
abbrev nVal : List Str := ["value"]
def isNm (z : Str) : Bool := (decide (1 ≤ z.cps.toList.length) && decide (z.cps.toList.length ≤ 8)) && z.cps.toList.all fun c => decide (97 ≤ c) && decide (c ≤ 122)
/-- no text -/
def NoStr (K : PySem.W.Frag) (H : Hp) (x : V) : Prop := ∃ t, TyX K H x (.type t) ∧ kitB t "str" = some false
def spName (K : PySem.W.Frag) (f : Str → Bool) : Sp := fun vs H Q _ => ∃ x, vs = [x] ∧ ((∃ s : Str, x = .str s ∧ s.length ≤ 1000 ∧ PyData.strOk s = true ∧ ∀ H', Evl.Ex H H' → Q (.bl (f s)) H') ∨ (NoStr K H x ∧ Q (.bl false) H))
def lettersS : Str := "abcdefghijklmnopqrstuvwxyz"
theorem letters_iff (c : Nat) : decide (c ∈ lettersS.cps.toList) = (decide (97 ≤ c) && decide (c ≤ 122)) := by
  have e : lettersS.cps.toList = [97, 98, 99, 100, 101, 102, 103, 104, 105, 106, 107, 108, 109, 110, 111, 112, 113, 114, 115, 116, 117, 118, 119, 120, 121, 122] := by decide +kernel
  rw [e, Bool.eq_iff_iff]
  simp only [decide_eq_true_eq, Bool.and_eq_true, List.mem_cons, List.not_mem_nil, or_false]
  omega
theorem scName : FnScope nName ["value"] (defScope sName) := ⟨rfl, rfl, rfl, by decide +kernel, rfl, by decide +kernel, by decide +kernel⟩
theorem boot_isi : bootBuiltins "isinstance" = some (.builtin "isinstance") := by kernel_rfl
theorem boot_all : bootBuiltins "all" = some (.builtin "all") := by kernel_rfl
theorem boot_str : bootBuiltins "str" = some (.type "str") := by kernel_rfl
theorem kit_str : kitB "str" "str" = some true := by decide +kernel
theorem ok_name (F : FnP K "is_name" sName f fd) (T : Txt K mg) {tk : Tok} (gL : mg "LETTERS" = some (.str lettersS tk)) : FnOk P w K mg base CX0 1 f fd ["value"] (spName K isNm) := by
  refine F.ok scName (fun vs H Q E h => ?_) (fun cdv A outer s H vs Q E hr h => ?_)
  · obtain ⟨x, rfl, _⟩ := h
    rfl
  · obtain ⟨x, rfl, h⟩ := h
    refine ⟨_, PSs.nox (pss_cons (ps_if (PW.pt (pw_or (pt_not (pt_val (pe_callB call_isi rfl T.isi boot_isi (pa_cons (pv 0) (pa_cons (pe_bltn rfl T.str boot_str (v := .ty "str") rfl) pa_nil)))))
          (pw_or1 (pt_not (pt_chain op_le op_le pe_int (pe_callB call_len rfl T.len boot_len (pa_cons (pv 0) pa_nil)) pe_int))))) (pss_one (ps_ret pe_bl)) pss_nil)
        (pss_one (ps_ret (pe_callB (cr_all rfl) rfl T.all boot_all (pa_cons (pe_lc (own := [("sign", 1)]) (g := gName 1) (tt := tYes) rfl scName.nd (pi_str (pv 0)) (blkOk_by (N := nName) (sc := defScope sName) (by decide +kernel))
          (fun _ _ _ _ _ => pg_name (i := 1) scName.nd rfl (Or.inl rfl)) (fun _ _ _ _ _ => pts_nil) (fun _ _ _ _ _ => pe_cmpR op_in_sign (pv 1) (pe_glob rfl gL (v := .str lettersS) ⟨tk, rfl⟩) (by rfl))) pa_nil))))), ?_⟩
    rcases h with ⟨z, rfl, hz, hk, hQ⟩ | ⟨⟨t, ty, kt⟩, hQ⟩
    · refine ⟨_, rfl, _, _, _, _, true, rfl, .ty "str", .base (.str z), kit_ty kit_str, _, rfl, ?_⟩
      have hz2 : z.length ≤ sizeLine := Nat.le_trans hz (by rw [sizeLine_eq]; decide)
      have hl : z.length = z.cps.toList.length := by simp [Str.length]
      refine ⟨_, rfl, _, _, rfl, ⟨hz2, rfl⟩, _, _, rfl, rfl, _, rfl, ?_⟩
      refine ite2 (fun h1 => ⟨_, _, rfl, rfl, _, rfl, ?_⟩) (fun h1 => ⟨_, rfl, ?_⟩)
      · have h1' : 1 ≤ z.cps.toList.length := by
          have := of_decide_eq_true h1
          omega
        by_cases h2 : z.cps.toList.length ≤ 8
        · have e2 : decide ((z.length : Int) ≤ 8) = true := decide_eq_true (by omega)
          show (if (!decide ((z.length : Int) ≤ 8)) = true then _ else _)
          rw [e2]
          refine iteF ?_
          refine ⟨_, rfl, _, rfl, fun D hD => ?_⟩
          refine lc_it (walk_str (z := z)) (fun i H' => Evl.Ex H H' ∧ H D = none ∧ H' D = some (.lst ((z.cps.toList.take i).map fun c => .bl (decide (97 ≤ c) && decide (c ≤ 122))))) ⟨Evl.Ex.new hD, hD, upd_same⟩ (fun _ _ _ _ => trivial) ?_ ?_
          · rintro i x H2 H3 hi ⟨e, _, hd⟩ ⟨rfl, c, hc, rfl⟩
            refine ⟨rfl, ?_⟩
            unfold tYes
            dsimp only
            rw [if_pos rfl]
            refine ⟨_, rfl, c, lettersS, rfl, rfl, _, hd, ?_, e.mut hD, hD, ?_⟩
            · rw [List.length_map, List.length_take]
              have : z.cps.toList.length < sizeLine := by rw [sizeLine_eq]; omega
              omega
            · have hc' : z.cps.toList[i]? = some c := by simpa using hc
              have hi' : i < z.cps.toList.length := by simpa using hi
              rw [upd_same, letters_iff, List.take_succ, hc']
              simp
          · rintro H2 ⟨e, _, hd⟩
            refine ⟨D, z.cps.toList.map fun c => decide (97 ≤ c) && decide (c ≤ 122), rfl, ?_, ?_⟩
            · refine SqL.of ?_
              rw [hd, List.take_of_length_le (by simp), List.map_map]
              rfl
            · have q := hQ H2 e
              have e3 : isNm z = (z.cps.toList.map fun c => decide (97 ≤ c) && decide (c ≤ 122)).all id := by
                unfold isNm
                rw [decide_eq_true h1', decide_eq_true h2, List.all_map]
                simp [Function.comp_def]
              rw [e3] at q
              exact q
        · have e2 : decide ((z.length : Int) ≤ 8) = false := decide_eq_false (by omega)
          show (if (!decide ((z.length : Int) ≤ 8)) = true then _ else _)
          rw [e2]
          refine iteT ?_
          have q := hQ H (Evl.Ex.refl H)
          have e3 : isNm z = false := by unfold isNm; rw [decide_eq_false h2]; simp
          rw [e3] at q
          exact q
      · have h1' : ¬ 1 ≤ z.cps.toList.length := by
          intro q
          apply h1
          exact decide_eq_true (by omega)
        have q := hQ H (Evl.Ex.refl H)
        have e3 : isNm z = false := by unfold isNm; rw [decide_eq_false h1']; simp
        rw [e3] at q
        exact q
    · refine ⟨_, rfl, _, _, _, _, false, rfl, .ty "str", ty, kit_ty kt, _, rfl, ?_⟩
      exact hQ

/-! ### kinds -/
def brk : Str := "[]"
def eb (z : Str) : Bool := Txt.endswith z brk
def c2 (z : Str) : Str := cutS z none (some (-2))
def nmOf (z : Str) : Str := if eb z = true then c2 z else z
theorem arr_iff (z : Str) : decide (V.str (cutS z (some (-2)) none) = V.str brk) = eb z := by
  have eb_eq : eb z = (decide (2 ≤ z.cps.toList.length) && decide (z.cps.toList.drop (z.cps.toList.length - 2) = brk.cps.toList)) := by
    have hl : z.length = z.cps.toList.length := by simp [Str.length]
    have hb : brk.length = 2 := by decide +kernel
    unfold eb Txt.endswith
    rw [PySem.StrLaws.subAt_eq, hb, hl, Nat.zero_add]
    by_cases h : 2 ≤ z.cps.toList.length
    · rw [List.take_of_length_le (by rw [List.length_drop]; omega), decide_eq_true h]
      rw [Bool.true_and, Bool.true_and, Bool.beq_eq_decide_eq]
    · rw [decide_eq_false h, Bool.false_and, Bool.false_and]
  have hcut : (cutS z (some (-2)) none).cps.toList = z.cps.toList.drop (z.cps.toList.length - 2) := by
    have hl : z.length = z.cps.toList.length := by simp [Str.length]
    unfold cutS
    show ((z.cps.toList.drop (HT.sIx z.length 0 (some (-2)))).take (HT.sIx z.length z.length none - HT.sIx z.length 0 (some (-2)))).toArray.toList = _
    have e1 : HT.sIx z.length 0 (some (-2)) = z.cps.toList.length - 2 := by
      unfold HT.sIx
      rw [hl]
      show (if (-2 : Int) < 0 then _ else _) = _
      rw [if_pos (by decide)]
      omega
    rw [e1, HT.sIx_none, hl]
    rw [List.take_of_length_le (by rw [List.length_drop]; omega)]
  rw [eb_eq, Bool.eq_iff_iff]
  simp only [decide_eq_true_eq, Bool.and_eq_true]
  constructor
  · intro h
    have h2 : (cutS z (some (-2)) none).cps.toList = brk.cps.toList := by rw [V.str.inj h]
    rw [hcut] at h2
    refine ⟨?_, h2⟩
    have h3 := congrArg List.length h2
    rw [List.length_drop] at h3
    have hb : brk.cps.toList.length = 2 := by decide +kernel
    omega
  · rintro ⟨_, h⟩
    rw [← hcut] at h
    exact congrArg V.str (Str.ext' (Array.toList_inj.mp h))
theorem nm_len (z : Str) (h : z.length ≤ 1000) : (nmOf z).length ≤ 1000 := by
  unfold nmOf
  split
  · exact Nat.le_trans (cutS_length z _ _) h
  · exact h
theorem cut_ok (z : Str) (lo hi : Option Int) (h : PyData.strOk z = true) : PyData.strOk (cutS z lo hi) = true := by
  unfold PyData.strOk at h ⊢
  rw [Array.all_eq_true_iff_forall_mem] at h ⊢
  intro c hc
  refine h c ?_
  have hc' : c ∈ ((z.cps.toList.drop (HT.sIx z.length 0 lo)).take (HT.sIx z.length z.length hi - HT.sIx z.length 0 lo)).toArray := hc
  rw [List.mem_toArray] at hc'
  exact Array.mem_toList_iff.mp (List.mem_of_mem_drop (List.mem_of_mem_take hc'))
theorem nm_ok (z : Str) (h : PyData.strOk z = true) : PyData.strOk (nmOf z) = true := by
  unfold nmOf
  split
  · exact cut_ok z _ _ h
  · exact h
theorem le_line {n : Nat} (h : n ≤ 1000) : n ≤ sizeLine := Nat.le_trans h (by rw [sizeLine_eq]; decide)
theorem scType : FnScope nVal ["value"] (defScope sType) := ⟨rfl, rfl, rfl, by decide +kernel, rfl, by decide +kernel, by decide +kernel⟩
theorem ok_type (F : FnP K "is_type" sType f fd) (T : Txt K mg) {fN : Addr} {fdN : FuncData} (FN : FnP K "is_name" sName fN fdN) (gN : mg "is_name" = some (.ref fN)) {tk : Tok} (gL : mg "LETTERS" = some (.str lettersS tk)) :
    FnOk P w K mg base CX0 2 f fd ["value"] (spName K fun z => isNm (nmOf z)) := by
  have GN : FnOk P w K mg base CX0 1 fN fdN ["value"] (spName K isNm) := ok_name FN T gL
  have bN : Binds K fdN ["value"] [] := FN.bindsN fun _ _ _ _ _ _ us hl => match us, hl with | [_], _ => rfl
  refine F.ok scType (fun vs H Q E h => ?_) (fun cdv A outer s H vs Q E hr h => ?_)
  · obtain ⟨x, rfl, _⟩ := h
    rfl
  · obtain ⟨x, rfl, h⟩ := h
    refine ⟨_, PSs.nox (pss_cons (ps_if (pt_not (pt_val (pe_callB call_isi rfl T.isi boot_isi (pa_cons (pv 0) (pa_cons (pe_bltn rfl T.str boot_str (v := .ty "str") rfl) pa_nil))))) (pss_one (ps_ret pe_bl)) pss_nil)
      (pss_one (ps_ret (pe_call GN hr rfl gN FN.kp bN .nil pass0 (pa_cons (pe_ifExp (pt_val (pe_m1 PySem.F.slot_str_endswith PySem.F.type_str_endswith mt_endswith (pv 0) pe_str)) (pe_slice sl_str (pv 0) po_none (po_some (pe_un un_neg pe_int))) (pv 0)) pa_nil))))), ?_⟩
    rcases h with ⟨z, rfl, hz, hk, hQ⟩ | ⟨⟨t, ty, kt⟩, hQ⟩
    · refine ⟨_, rfl, _, _, _, _, true, rfl, .ty "str", .base (.str z), kit_ty kit_str, _, rfl, ?_⟩
      refine ⟨_, rfl, ⟨_, rfl⟩, _, brk, rfl, rfl, _, rfl, ?_⟩
      have q : nmOf z = if eb z = true then c2 z else z := rfl
      refine ite2 (fun h => ?_) (fun h => ?_)
      · have q2 : nmOf z = c2 z := by rw [q, if_pos (show eb z = true from h)]
        refine ⟨_, rfl, _, rfl, _, rfl, z, rfl, le_line hz, _, rfl, .inl ⟨_, rfl, Nat.le_trans (cutS_length z _ _) hz, cut_ok z _ _ hk, fun H' e => ?_⟩⟩
        have q3 : Q (.bl (isNm (nmOf z))) H' := hQ H' e
        rw [q2] at q3
        exact q3
      · have q2 : nmOf z = z := by rw [q, if_neg (show ¬ eb z = true from h)]
        refine ⟨_, rfl, _, rfl, .inl ⟨_, rfl, hz, hk, fun H' e => ?_⟩⟩
        have q3 : Q (.bl (isNm (nmOf z))) H' := hQ H' e
        rw [q2] at q3
        exact q3
    · refine ⟨_, rfl, _, _, _, _, false, rfl, .ty "str", ty, kit_ty kt, _, rfl, ?_⟩
      exact hQ

/-! ### the law's own reading of a name -/
abbrev nLName : List Str := ["_law_thing", "_law_sign"]
theorem strs_dp {K : PySem.W.Frag} {H : Hp} : ∀ l : List Nat, DpAll K H (l.map fun c => V.str ⟨#[c]⟩) (l.map fun c => PyData.str ⟨#[c]⟩)
  | [] => .nil
  | c :: l => .cons (.str _) (strs_dp l)
theorem canLay_strs : ∀ l : List Nat, (∀ c ∈ l, c < 0x110000) → PyData.canLayAll0 (l.map fun c => PyData.str ⟨#[c]⟩) = true
  | [], _ => rfl
  | c :: l, h => by
    show (PyData.strOk ⟨#[c]⟩ && PyData.canLayAll0 (l.map fun c => PyData.str ⟨#[c]⟩)) = true
    rw [canLay_strs l fun d hd => h d (List.mem_cons_of_mem _ hd), Bool.and_true]
    have hc := h c List.mem_cons_self
    simp [PyData.strOk, hc]
theorem depth_strs : ∀ l : List Nat, PyData.depthAll (l.map fun c => PyData.str ⟨#[c]⟩) = 0
  | [] => rfl
  | c :: l => by
    have ih := depth_strs l
    simp only [List.map_cons, PyData.depthAll, PyData.depth, ih]
    try rfl
theorem shaped_strs (l : List Nat) (h : ∀ c ∈ l, c < 0x110000) : SeqAt.shaped (.list (l.map fun c => PyData.str ⟨#[c]⟩)) = true := by
  unfold SeqAt.shaped
  rw [show PyData.canLay0 (.list (l.map fun c => PyData.str ⟨#[c]⟩)) = PyData.canLayAll0 (l.map fun c => PyData.str ⟨#[c]⟩) from by unfold PyData.canLay0; rfl, canLay_strs l h]
  simp [PyData.depth, depth_strs]
theorem sgn_le (c : Nat) : decide (([c] : List Nat) < [97]) = decide (c < 97) := by
  rw [Bool.eq_iff_iff, decide_eq_true_eq, decide_eq_true_eq]
  constructor
  · intro h
    cases h with
    | rel h => exact h
    | cons h => cases h
  · exact fun h => .rel h
theorem sgn_ge (c : Nat) : decide (([122] : List Nat) < [c]) = decide (122 < c) := by
  rw [Bool.eq_iff_iff, decide_eq_true_eq, decide_eq_true_eq]
  constructor
  · intro h
    cases h with
    | rel h => exact h
    | cons h => cases h
  · exact fun h => .rel h
def okC (c : Nat) : Bool := decide (97 ≤ c) && decide (c ≤ 122)
end
end K06
set_option Elab.async false
set_option linter.all false
set_option maxRecDepth 100000
set_option maxHeartbeats 0
namespace K06
open PySem PySem.Spec PyProof.Rows L2
/-! ### things as data -/
def tyD : PyData → String
  | .none => "NoneType"
  | .bool _ => "bool"
  | .int _ => "int"
  | .str _ => "str"
  | .list _ => "list"
  | .tuple _ => "tuple"
  | .dict _ => "dict"
theorem ty_of {K : PySem.W.Frag} {H : Hp} {x : V} {d : PyData} (h : EX2.Dq H x d) : TyX K H x (.type (tyD d)) := by
  cases h with
  | non => exact .base .non
  | bl b => exact .base (.bl b)
  | int i => exact .base (.int i)
  | str z => exact .base (.str z)
  | lst e _ => exact .base (.lst e)
  | tup e _ => exact .base (.tup e)
  | dk e _ => exact .base (.dK e)
def isIntD : PyData → Bool
  | .int _ => true
  | _ => false
def isStrD : PyData → Bool
  | .str _ => true
  | _ => false
def isTupD : PyData → Bool
  | .tuple _ => true
  | _ => false
def isBoolD : PyData → Bool
  | .bool _ => true
  | _ => false
theorem kit_int (d : PyData) : kitB (tyD d) "int" = some (isIntD d || isBoolD d) := match d with
  | .none => (by decide +kernel : kitB "NoneType" "int" = some false)
  | .bool _ => (by decide +kernel : kitB "bool" "int" = some true)
  | .int _ => (by decide +kernel : kitB "int" "int" = some true)
  | .str _ => (by decide +kernel : kitB "str" "int" = some false)
  | .list _ => (by decide +kernel : kitB "list" "int" = some false)
  | .tuple _ => (by decide +kernel : kitB "tuple" "int" = some false)
  | .dict _ => (by decide +kernel : kitB "dict" "int" = some false)
theorem kit_bool (d : PyData) : kitB (tyD d) "bool" = some (isBoolD d) := match d with
  | .none => (by decide +kernel : kitB "NoneType" "bool" = some false)
  | .bool _ => (by decide +kernel : kitB "bool" "bool" = some true)
  | .int _ => (by decide +kernel : kitB "int" "bool" = some false)
  | .str _ => (by decide +kernel : kitB "str" "bool" = some false)
  | .list _ => (by decide +kernel : kitB "list" "bool" = some false)
  | .tuple _ => (by decide +kernel : kitB "tuple" "bool" = some false)
  | .dict _ => (by decide +kernel : kitB "dict" "bool" = some false)
theorem kit_strD (d : PyData) : kitB (tyD d) "str" = some (isStrD d) := match d with
  | .none => (by decide +kernel : kitB "NoneType" "str" = some false)
  | .bool _ => (by decide +kernel : kitB "bool" "str" = some false)
  | .int _ => (by decide +kernel : kitB "int" "str" = some false)
  | .str _ => (by decide +kernel : kitB "str" "str" = some true)
  | .list _ => (by decide +kernel : kitB "list" "str" = some false)
  | .tuple _ => (by decide +kernel : kitB "tuple" "str" = some false)
  | .dict _ => (by decide +kernel : kitB "dict" "str" = some false)
theorem kit_tupD (d : PyData) : kitB (tyD d) "tuple" = some (isTupD d) := match d with
  | .none => (by decide +kernel : kitB "NoneType" "tuple" = some false)
  | .bool _ => (by decide +kernel : kitB "bool" "tuple" = some false)
  | .int _ => (by decide +kernel : kitB "int" "tuple" = some false)
  | .str _ => (by decide +kernel : kitB "str" "tuple" = some false)
  | .list _ => (by decide +kernel : kitB "list" "tuple" = some false)
  | .tuple _ => (by decide +kernel : kitB "tuple" "tuple" = some true)
  | .dict _ => (by decide +kernel : kitB "dict" "tuple" = some false)
def isLstD : PyData → Bool
  | .list _ => true
  | _ => false
theorem kit_lstD (d : PyData) : kitB (tyD d) "list" = some (isLstD d) := match d with
  | .none => (by decide +kernel : kitB "NoneType" "list" = some false)
  | .bool _ => (by decide +kernel : kitB "bool" "list" = some false)
  | .int _ => (by decide +kernel : kitB "int" "list" = some false)
  | .str _ => (by decide +kernel : kitB "str" "list" = some false)
  | .list _ => (by decide +kernel : kitB "list" "list" = some true)
  | .tuple _ => (by decide +kernel : kitB "tuple" "list" = some false)
  | .dict _ => (by decide +kernel : kitB "dict" "list" = some false)
-- texts in it are short and of true signs
mutual
def okD : PyData → Bool
  | .str z => decide (z.length ≤ 1000) && PyData.strOk z
  | .list xs => okAll xs
  | .tuple xs => okAll xs
  | _ => true
def okAll : List PyData → Bool
  | [] => true
  | d :: ds => okD d && okAll ds
end
def inR (lo hi : Int) : PyData → Bool
  | .int i => decide (lo ≤ i) && decide (i ≤ hi)
  | _ => false
def nameD : PyData → Bool
  | .str z => isNm z
  | _ => false
def typeD : PyData → Bool
  | .str z => isNm (nmOf z)
  | _ => false
/-- a question about one thing, answered alike in every larger heap -/
def spD (f : PyData → Bool) : Sp := fun vs H Q _ => ∃ (x : V) (d : PyData), vs = [x] ∧ EX2.Dq H x d ∧ okD d = true ∧ ∀ H', Evl.Ex H H' → Q (.bl (f d)) H'
theorem name_of {K : PySem.W.Frag} {g : Str → Bool} {f : PyData → Bool} (hs : ∀ z, f (.str z) = g z) (hn : ∀ d, isStrD d = false → f d = false) : ∀ vs H Q E, spD f vs H Q E → spName K g vs H Q E := by
  rintro vs H Q E ⟨x, d, rfl, hd, hk, hQ⟩
  refine ⟨x, rfl, ?_⟩
  cases h : isStrD d with
  | true =>
    cases d with
    | str z =>
      cases hd
      simp only [okD, Bool.and_eq_true, decide_eq_true_eq] at hk
      exact .inl ⟨z, rfl, hk.1, hk.2, fun H' e => by rw [← hs]; exact hQ H' e⟩
    | _ => cases h
  | false =>
    refine .inr ⟨⟨_, ty_of hd, (kit_strD d).trans (by rw [h])⟩, ?_⟩
    have q := hQ H (Evl.Ex.refl H)
    rw [hn d h] at q
    exact q
theorem spD_len {f : PyData → Bool} {p : Str} : ∀ vs H Q E, spD f vs H Q E → vs.length = [p].length := by
  rintro vs H Q E ⟨x, d, rfl, _⟩
  rfl
section
variable {P : Program} {w : World} {K : PySem.W.Frag} {mg : Str → Option Value} {base : Heap} {f : Addr} {fd : FuncData}
theorem boot_bool : bootBuiltins "bool" = some (.type "bool") := by kernel_rfl
theorem boot_tuple : bootBuiltins "tuple" = some (.type "tuple") := by kernel_rfl
theorem boot_list : bootBuiltins "list" = some (.type "list") := by kernel_rfl
theorem boot_any : bootBuiltins "any" = some (.builtin "any") := by kernel_rfl
abbrev sInteger : Stmt := top 14
abbrev sRange : Stmt := top 15
abbrev nObj : List Str := ["obj"]
theorem scInteger : FnScope nObj ["obj"] (defScope sInteger) := ⟨rfl, rfl, rfl, by decide +kernel, rfl, by decide +kernel, by decide +kernel⟩
theorem ok_integer (F : FnP K "is_integer" sInteger f fd) (T : Txt K mg) : FnOk P w K mg base CX0 1 f fd ["obj"] (spD isIntD) := by
  refine F.ok scInteger spD_len (fun cdv A outer s H vs Q E hr h => ?_)
  obtain ⟨x, d, rfl, hd, hk, hQ⟩ := h
  refine ⟨_, PSs.nox (pss_one (ps_ret (pe_and (pe_callB call_isi rfl T.isi boot_isi (pa_cons (pv 0) (pa_cons (pe_bltn rfl T.int boot_int (v := .ty "int") rfl) pa_nil)))
    (pe_one (pe_not (pe_callB call_isi rfl T.isi boot_isi (pa_cons (pv 0) (pa_cons (pe_bltn rfl T.bl boot_bool (v := .ty "bool") rfl) pa_nil)))))))), ?_⟩
  refine ⟨_, rfl, _, _, _, _, _, rfl, .ty "int", ty_of hd, kit_ty (kit_int d), _, rfl, ?_⟩
  have q := hQ H (Evl.Ex.refl H)
  refine ite2 (fun h => ?_) (fun h => ?_)
  · refine ⟨_, rfl, _, _, _, _, _, rfl, .ty "bool", ty_of hd, kit_ty (kit_bool d), _, rfl, ?_⟩
    cases d <;> first | exact q | exact absurd h (by simp [isIntD, isBoolD])
  · cases d <;> first | exact q | exact absurd (by simp [isIntD, isBoolD]) h
def spRange : Sp := fun vs H Q _ => ∃ (x : V) (d : PyData) (lo hi : Int), vs = [x, .int lo, .int hi] ∧ EX2.Dq H x d ∧ okD d = true ∧ ∀ H', Evl.Ex H H' → Q (.bl (inR lo hi d)) H'
abbrev nRange : List Str := ["obj", "least", "most"]
theorem scRange : FnScope nRange ["obj", "least", "most"] (defScope sRange) := ⟨rfl, rfl, rfl, by decide +kernel, rfl, by decide +kernel, by decide +kernel⟩
theorem ok_range (F : FnP K "is_in_range" sRange f fd) {fI : Addr} {fdI : FuncData} (GI : FnOk P w K mg base CX0 1 fI fdI ["obj"] (spD isIntD)) (gI : mg "is_integer" = some (.ref fI)) (FI : FnP K "is_integer" sInteger fI fdI) : FnOk P w K mg base CX0 2 f fd ["obj", "least", "most"] spRange := by
  have bI : Binds K fdI ["obj"] [] := FI.bindsN fun _ _ _ _ _ _ us hl => match us, hl with | [_], _ => rfl
  refine F.ok scRange (fun vs H Q E h => ?_) (fun cdv A outer s H vs Q E hr h => ?_)
  · obtain ⟨x, d, lo, hi, rfl, _⟩ := h
    rfl
  · obtain ⟨x, d, lo, hi, rfl, hd, hk, hQ⟩ := h
    refine ⟨_, PSs.nox (pss_one (ps_ret (pe_and (pe_call GI hr rfl gI FI.kp bI .nil pass0 (pa_cons (pv 0) pa_nil)) (pe_one (pe_chain op_le op_le (pv 1) (pv 0) (pv 2)))))), ?_⟩
    refine ⟨_, rfl, x, d, rfl, hd, hk, fun H' e => ⟨_, rfl, ?_⟩⟩
    have q := hQ H' e
    refine ite2 (fun h => ?_) (fun h => ?_)
    · cases d with
      | int i =>
        cases hd
        refine ⟨_, rfl, _, rfl, _, _, rfl, rfl, _, rfl, ?_⟩
        have q2 : Q (.bl (decide (lo ≤ i) && decide (i ≤ hi))) H' := q
        refine ite2 (fun h1 => ?_) (fun h1 => ?_)
        · refine ⟨_, rfl, _, _, rfl, rfl, ?_⟩
          rw [h1, Bool.true_and] at q2
          exact q2
        · rw [show decide (lo ≤ i) = false from by simpa using h1, Bool.false_and] at q2
          exact q2
      | _ => cases h
    · cases d <;> first | exact q | exact absurd rfl h
end
end K06
set_option Elab.async false
set_option linter.all false
set_option maxRecDepth 100000
set_option maxHeartbeats 4000000
/-! data in the heap: helpers; comprehensions whose elements grow the heap alone; sources -/
namespace EX2
open PySem PySem.Spec PyProof.Rows L2
section
variable {H H' : Hp}
theorem DqAll.get {xs : List V} {ds : List PyData} (h : DqAll H xs ds) : ∀ {i : Nat} {x : V}, xs[i]? = some x → ∃ d, ds[i]? = some d ∧ Dq H x d := by
  induction xs generalizing ds with
  | nil => intro i x e; simp at e
  | cons y ys ih =>
    cases h with
    | cons h t =>
      intro i x e
      cases i with
      | zero => simp only [List.getElem?_cons_zero, Option.some.injEq] at e ⊢; subst e; exact ⟨_, rfl, h⟩
      | succ i => simp only [List.getElem?_cons_succ] at e ⊢; exact ih t e
theorem DqAll.getD {xs : List V} {ds : List PyData} (h : DqAll H xs ds) : ∀ {i : Nat} {d : PyData}, ds[i]? = some d → ∃ x, xs[i]? = some x ∧ Dq H x d := by
  induction xs generalizing ds with
  | nil => cases h; intro i x e; simp at e
  | cons y ys ih =>
    cases h with
    | cons h t =>
      intro i x e
      cases i with
      | zero => simp only [List.getElem?_cons_zero, Option.some.injEq] at e ⊢; subst e; exact ⟨_, rfl, h⟩
      | succ i => simp only [List.getElem?_cons_succ] at e ⊢; exact ih t e
theorem DqAll.drop {xs : List V} {ds : List PyData} (h : DqAll H xs ds) : ∀ (n : Nat), DqAll H (xs.drop n) (ds.drop n) := by
  induction xs generalizing ds with
  | nil => cases h; intro n; simp; exact .nil
  | cons y ys ih =>
    cases h with
    | cons h t =>
      intro n
      cases n with
      | zero => exact .cons h t
      | succ n => exact ih t n
theorem DqAll.take {xs : List V} {ds : List PyData} (h : DqAll H xs ds) : ∀ (n : Nat), DqAll H (xs.take n) (ds.take n) := by
  induction xs generalizing ds with
  | nil => cases h; intro n; simp; exact .nil
  | cons y ys ih =>
    cases h with
    | cons h t =>
      intro n
      cases n with
      | zero => exact .nil
      | succ n => exact .cons h (ih t n)
theorem DqAll.app {xs ys : List V} {ds es : List PyData} (h : DqAll H xs ds) (g : DqAll H ys es) : DqAll H (xs ++ ys) (ds ++ es) := by
  induction xs generalizing ds with
  | nil => cases h; exact g
  | cons y zs ih => cases h with
    | cons h t => exact .cons h (ih t)
theorem Dq.tupI {x : V} {ds : List PyData} (h : Dq H x (.tuple ds)) : ∃ a xs, x = .ref a ∧ H a = some (.tup xs) ∧ DqAll H xs ds := by
  cases h with
  | tup e h => exact ⟨_, _, rfl, e, h⟩
theorem Dq.lstI {x : V} {ds : List PyData} (h : Dq H x (.list ds)) : ∃ a xs, x = .ref a ∧ H a = some (.lst xs) ∧ DqAll H xs ds := by
  cases h with
  | lst e h => exact ⟨_, _, rfl, e, h⟩
theorem Dq.strI {x : V} {z : Str} (h : Dq H x (.str z)) : x = .str z := by cases h; rfl
theorem Dq.intI {x : V} {z : Int} (h : Dq H x (.int z)) : x = .int z := by cases h; rfl
end
section
variable {J : It} {n : Nat} {G : Hp → Prop} {Y : Nat → Hp → V → Hp → Prop}
/-- a comprehension whose j-th element is v j, the heap growing -/
theorem lc_map (w : Walk J n G Y) {g : TG} {te : TE} {vs : List Nat} {σ : L2.St} {H1 : Hp} {D : Addr} {Qd : Hp → Prop} (hD : H1 D = none) (hG : ∀ H', Evl.Ex H1 H' → G H') (v : Nat → V) (hz : n ≤ 100000)
    (hY : ∀ j H2 x H3, j < n → Evl.Ex H1 H2 → Y j H2 x H3 → Evl.Ex H2 H3)
    (hs : ∀ j x H2 H3, j < n → Evl.Ex H1 H2 → Evl.Ex H1 H3 → Y j H2 x H3 → ∀ Qt : V → Hp → Prop, (∀ H4, Evl.Ex H3 H4 → Qt (v j) H4) → g x (wipe σ vs) H3 fun σ2 H4 => wipe σ2 vs = wipe σ vs ∧ te σ2 H4 Qt)
    (hd : ∀ H', Evl.Ex H1 H' → H' D = some (.lst ((List.range n).map v)) → Qd H') :
    ∃ W : Nat → Nat → Hp → Prop, (∃ m, W 0 m (upd H1 D (.lst []))) ∧ ∀ i m H, W i m H →
      (J.stop i H ∧ Qd H) ∨ (J.go i H ∧ ∃ Nx : Hp → Prop, (∀ H', Nx H' → ∃ m', m' < m ∧ W (i + 1) m' H') ∧ ∀ x H', J.yld i H x H' → g x (wipe σ vs) H' fun σ2 H2 => wipe σ2 vs = wipe σ vs ∧ tYes σ2 H2 fun b H3 =>
        if b = true then te σ2 H3 fun y H4 => ∃ acc, H4 D = some (.lst acc) ∧ acc.length < sizeLine ∧ Nx (upd H4 D (.lst (acc ++ [y]))) else Nx H3) := by
  refine lc_it w (fun j H' => Evl.Ex H1 H' ∧ H' D = some (.lst ((List.range j).map v))) ⟨Evl.Ex.new hD, upd_same⟩ (fun i H hi p => hG H p.1) ?_ (fun H p => hd H p.1 p.2)
  rintro j x H2 H3 hj ⟨e, hd2⟩ hy
  have e3 := hY j H2 x H3 hj e hy
  have q := hs j x H2 H3 hj e (e.trans e3) hy (fun y H4 => ∃ acc, H4 D = some (.lst acc) ∧ acc.length < sizeLine ∧ (Evl.Ex H1 (upd H4 D (.lst (acc ++ [y]))) ∧ (upd H4 D (.lst (acc ++ [y]))) D = some (.lst ((List.range (j + 1)).map v)))) ?_
  · simp only [tYes, if_true]
    exact q
  · intro H4 e4
    refine ⟨_, e4 _ _ (e3 _ _ hd2), ?_, ((e.trans e3).trans e4).mut hD, ?_⟩
    · rw [List.length_map, List.length_range]
      exact Evl.sz_lt (by omega)
    · rw [upd_same, List.range_succ, List.map_append]
      rfl
end
theorem map_range_get {α β : Type} (xs : List α) (f : α → β) (g : Nat → β) (h : ∀ i x, xs[i]? = some x → g i = f x) : (List.range xs.length).map g = xs.map f := by
  apply List.ext_getElem?
  intro i
  rw [List.getElem?_map, List.getElem?_map]
  by_cases hi : i < xs.length
  · rw [List.getElem?_eq_getElem hi]
    simp [hi, h i xs[i] (List.getElem?_eq_getElem hi)]
  · simp [hi]
section
variable {X : Cx}
/-- a tuple == () -/
theorem op_eq_tup0 (hu : X.A.units < cLine) : OpR X (compareOp .Eq) (fun x y H Q => ∃ (a b : Addr) (xs : List V), x = .ref a ∧ y = .ref b ∧ SqT X.K H a xs ∧ SqT X.K H b [] ∧ Q (.bl xs.isEmpty) H) := by
  intro pins s σ H x y v u Q I rx ry h
  obtain ⟨a, b, xs, rfl, rfl, ha, hb, q⟩ := h
  cases rx
  cases ry
  obtain ⟨its, rv, ht, hz⟩ := I.tuple ha
  obtain ⟨its2, rv2, ht2, hz2⟩ := I.tuple hb
  have l1 := rv.length
  have l2 := rv2.length
  have e2 : its2 = [] := List.length_eq_zero_iff.mp (by simpa using l2.symm)
  subst e2
  refine SeqAt.eq_tupleAt (e := fun _ => true) ht ht2 hu (fun j h1 h2 => absurd h2 (by simp)) ⟨.bl _, H, I, rfl, ?_⟩
  have e3 : ((List.range (min its.toArray.size ([] : List Value).toArray.size)).all (fun _ => true) && its.toArray.size == ([] : List Value).toArray.size) = xs.isEmpty := by
    cases xs with
    | nil => simp at l1; simp [← l1]
    | cons x xs => cases its with
      | nil => simp at l1
      | cons => simp
  rw [e3]
  exact q
end
/-! ### a source at p -/
/-- the heap but for p -/
def rm (p : Addr) (H : Hp) : Hp := fun a => if a = p then none else H a
theorem rm_ne {p a : Addr} {H : Hp} (h : a ≠ p) : rm p H a = H a := by unfold rm; rw [if_neg h]
theorem rm_ex {p : Addr} {H : Hp} : Evl.Ex (rm p H) H := fun a o h => by
  unfold rm at h
  split at h
  · cases h
  · exact h
theorem rm_ne_of {p a : Addr} {H : Hp} {o : HO} (h : rm p H a = some o) : a ≠ p := by
  intro e
  subst e
  unfold rm at h
  rw [if_pos rfl] at h
  cases h
def Sc (p : Addr) (H : Hp) : Prop := ∃ N S : Int, H p = some (.lst [.int N, .int S]) ∧ 0 ≤ N ∧ 0 ≤ S ∧ S < 2147483647
/-- what stood stands, the source at p aside -/
structure Lx (p : Addr) (H H' : Hp) : Prop where
  ex : Evl.Ex (rm p H) (rm p H')
  sc : Sc p H'
theorem Lx.trans {p : Addr} {H H1 H2 : Hp} (a : Lx p H H1) (b : Lx p H1 H2) : Lx p H H2 := ⟨a.ex.trans b.ex, b.sc⟩
theorem Lx.refl {p : Addr} {H : Hp} (s : Sc p H) : Lx p H H := ⟨.refl _, s⟩
theorem ex_rm {p : Addr} {H H' : Hp} (e : Evl.Ex H H') : Evl.Ex (rm p H) (rm p H') := fun a o h => by
  have n := rm_ne_of h
  rw [rm_ne n] at h ⊢
  exact e a o h
theorem Sc.ex {p : Addr} {H H' : Hp} (s : Sc p H) (e : Evl.Ex H H') : Sc p H' := by
  obtain ⟨N, S, h, r⟩ := s
  exact ⟨N, S, e _ _ h, r⟩
theorem Lx.of {p : Addr} {H H' : Hp} (s : Sc p H) (e : Evl.Ex H H') : Lx p H H' := ⟨ex_rm e, s.ex e⟩
theorem Lx.then {p : Addr} {H H1 H2 : Hp} (a : Lx p H H1) (e : Evl.Ex H1 H2) : Lx p H H2 := a.trans (.of a.sc e)
theorem Sc.ne {p q : Addr} {H : Hp} (s : Sc p H) (h : H q = none) : q ≠ p := by
  rintro rfl
  obtain ⟨N, S, e, _⟩ := s
  rw [h] at e
  cases e
/-- something new, then an old list that grows: D stood nowhere in H -/
theorem Lx.mut {p D : Addr} {H H' : Hp} {o : HO} (a : Lx p H H') (hp : D ≠ p) (h : H D = none) : Lx p H (upd H' D o) := by
  refine ⟨fun b u e => ?_, ?_⟩
  · have n := rm_ne_of e
    have e2 := a.ex b u e
    rw [rm_ne n] at e e2 ⊢
    by_cases hb : b = D
    · subst hb
      rw [h] at e
      cases e
    · rw [upd_ne hb]
      exact e2
  · obtain ⟨N, S, e, r⟩ := a.sc
    exact ⟨N, S, by rw [upd_ne hp.symm]; exact e, r⟩
theorem Lx.at {p a : Addr} {H H' : Hp} {o : HO} (l : Lx p H H') (h : H a = some o) (n : a ≠ p) : H' a = some o := by
  have := l.ex a o (by rw [rm_ne n]; exact h)
  rw [rm_ne n] at this
  exact this
/-- data that stands apart from the source -/
abbrev Dz (p : Addr) (H : Hp) (x : V) (d : PyData) : Prop := Dq (rm p H) x d
abbrev DzAll (p : Addr) (H : Hp) (xs : List V) (ds : List PyData) : Prop := DqAll (rm p H) xs ds
theorem Dz.q {p : Addr} {H : Hp} {x : V} {d : PyData} (h : Dz p H x d) : Dq H x d := Dq.ext rm_ex h
theorem Dz.lx {p : Addr} {H H' : Hp} {x : V} {d : PyData} (h : Dz p H x d) (l : Lx p H H') : Dz p H' x d := Dq.ext l.ex h
theorem DzAll.lx {p : Addr} {H H' : Hp} {x : List V} {d : List PyData} (h : DzAll p H x d) (l : Lx p H H') : DzAll p H' x d := DqAll.ext l.ex h
theorem Dz.tupN {p a : Addr} {H : Hp} {xs : List V} {ds : List PyData} (s : Sc p H) (ha : H a = none) (h : DzAll p H xs ds) : Dz p (upd H a (.tup xs)) (.ref a) (.tuple ds) := by
  have n := s.ne ha
  refine .tup (xs := xs) (by rw [rm_ne n]; exact upd_same) (DqAll.ext (ex_rm (Evl.Ex.new ha)) h)
theorem Dz.lstN {p a : Addr} {H : Hp} {xs : List V} {ds : List PyData} (s : Sc p H) (ha : H a = none) (h : DzAll p H xs ds) : Dz p (upd H a (.lst xs)) (.ref a) (.list ds) := by
  have n := s.ne ha
  refine .lst (xs := xs) (by rw [rm_ne n]; exact upd_same) (DqAll.ext (ex_rm (Evl.Ex.new ha)) h)
end EX2
set_option Elab.async false
set_option linter.all false
set_option maxRecDepth 100000
set_option maxHeartbeats 0
namespace K06
open PySem PySem.Spec PyProof.Rows L2
abbrev ssequence : Stmt := top 18
/-- what the program's top has left -/
structure Defs (w : World) (K : PySem.W.Frag) (mg : Str → Option Value) : Prop where
  t : Txt K mg
  letters : ∃ tk, mg "LETTERS" = some (.str lettersS tk)
  topn : ∃ tk, mg "TOP_NAME" = some (.str "top" tk)
  parts8 : ∃ tk, mg "MOST_PARTS" = some (.int 8 tk)
  is_name : ∃ f fd, mg "is_name" = some (.ref f) ∧ FnP K "is_name" sName f fd
  is_sequence : ∃ f fd, mg "is_sequence" = some (.ref f) ∧ FnP K "is_sequence" ssequence f fd
  is_class_name : ∃ f fd, mg "is_class_name" = some (.ref f) ∧ FnP K "is_class_name" (top 33) f fd
  are_marks : ∃ f fd, mg "are_marks" = some (.ref f) ∧ FnP K "are_marks" (top 34) f fd
  are_fields : ∃ f fd, mg "are_fields" = some (.ref f) ∧ FnP K "are_fields" (top 36) f fd
  are_methods : ∃ f fd, mg "are_methods" = some (.ref f) ∧ FnP K "are_methods" (top 37) f fd
  source : ∃ f fd, mg "_law_source" = some (.ref f) ∧ FnP K "_law_source" sSource f fd
  draw : ∃ f fd, mg "_law_draw" = some (.ref f) ∧ FnP K "_law_draw" sDraw f fd
section
variable {P : Program} {w : World} {K : PySem.W.Frag} {mg : Str → Option Value} {base : Heap} {f : Addr} {fd : FuncData}
theorem okD_name (D : Defs w K mg) {f : Addr} {fd : FuncData} (F : FnP K "is_name" sName f fd) : FnOk P w K mg base CX0 1 f fd ["value"] (spD nameD) := by
  obtain ⟨tk, gL⟩ := D.letters
  exact (ok_name F D.t gL).imp (name_of (f := nameD) (fun _ => rfl) fun d h => by cases d <;> first | rfl | cases h)
end
end K06
set_option Elab.async false
set_option linter.all false
set_option maxRecDepth 100000
set_option maxHeartbeats 4000000
/-! d.update(d2) of int and text keys; == [] and != [] of any list -/
namespace EX2
open PySem PySem.Spec PyProof.Rows L2
def rDUpd : V → List V → Hp → VK → Prop := fun x vs H Q => ∃ (a b : Addr) (kvs more : List (Key × V)), x = .ref a ∧ vs = [.ref b] ∧ a ≠ b ∧ H a = some (.dK kvs) ∧ H b = some (.dK more) ∧ kvs.length + more.length ≤ sizeLine ∧ Q .non (upd H a (.dK (mergeK kvs more)))
theorem mtd_update {X : Cx} : MtR X "dict.update" rDUpd := by
  intro pins s σ H x vs v us Q I rx rv h
  obtain ⟨a, b, kvs, more, ex, ev, hne, ea, eb, hsz, q⟩ := h
  subst ex
  subst ev
  obtain rfl : v = Value.ref a := rx
  obtain ⟨u, rfl, ru⟩ := vals1 rv
  obtain rfl : u = Value.ref b := ru
  obtain ⟨z1, hd1, vs1, r1, dd1⟩ := dk_of I.hok ea
  obtain ⟨z2, hd2, vs2, r2, dd2⟩ := dk_of I.hok eb
  have l1 : kvs.length = vs1.length := Paired.length r1
  have l2 : more.length = vs2.length := Paired.length r2
  refine call_meetsIn PySem.F.slot_dict_update dd1.typeIs PySem.F.entry_dict_update (PySem.F.args_dict_update_2 _ _) (meets_dict_update (mixKind X.prog X.w) a b hne hd2)
    ⟨vs1, vs2, dd1, dd2, by rw [← l1, ← l2]; exact hsz, fun h' dd' _ hs => ⟨.non, _, ?_, rfl, q⟩⟩
  have he : ∃ q, h'.get? a = some q := let ⟨q, _, _, hq, _⟩ := dd'; ⟨q, hq⟩
  have hl : (mergeK kvs more).length ≤ sizeLine := Nat.le_trans (length_mergeK more kvs) hsz
  exact d_write (t' := s.toks) I (by rw [ea]; exact True.intro) hs he (dk_new hl hd1 (KV.merge r2 r1) dd')
section
variable {X : Cx} {o e : Expr} {to te : TE} {apos cpos : Pos}
theorem pe_dupd (ho : PE X o to) (ha : PE X e te) (hbase : attributeBase o "update" X.env (eval o X.env) = eval o X.env := by rfl)
    (hfew : ((backTo cpos (starEach [e] X.env)).all (fun x => !x.1) && (backToKw cpos (keywordEach [] X.env)).all (fun x => x.1.isSome)
      && decide ([e].length + ([] : List Keyword).length + (if ([] : List Keyword).isEmpty then 0 else 1) < 30)) = true := by rfl)
    (hline : (apos.endLine == cpos.line) = true := by rfl) (hs : starEach [e] X.env = (false, eval e X.env) :: starEach [] X.env := by rfl) :
    PE X (.Call (.Attribute o "update" apos) [e] [] cpos) (tBM X.K "dict" rDUpd to (tCons te tNil)) :=
  pe_bm PySem.F.plainAttrs_dict PySem.F.slot_dict_update PySem.F.type_dict_update mtd_update ho (pa_cons ha pa_nil hs) hbase hfew hline hs
end
section
variable {X : Cx}
def rL0 (K : PySem.W.Frag) (neg : Bool) : R2 := fun x y H Q => ∃ (a b : Addr) (xs : List V), x = .ref a ∧ y = .ref b ∧ SqL K H a xs ∧ SqL K H b [] ∧ Q (.bl (if neg then !xs.isEmpty else xs.isEmpty)) H
theorem op_eq_lst0 (hu : X.A.units < cLine) : OpR X (compareOp .Eq) (rL0 X.K false) := by
  intro pins s σ H x y v u Q I rx ry h
  obtain ⟨a, b, xs, rfl, rfl, ha, hb, q⟩ := h
  cases rx
  cases ry
  obtain ⟨its, rv, ht, hz⟩ := I.list ha
  obtain ⟨its2, rv2, ht2, hz2⟩ := I.list hb
  have l1 := rv.length
  have l2 := rv2.length
  have e2 : its2 = [] := List.length_eq_zero_iff.mp (by simpa using l2.symm)
  subst e2
  cases xs with
  | nil =>
    have e1 : its = [] := List.length_eq_zero_iff.mp (by simpa using l1.symm)
    subst e1
    exact SeqAt.eq_listAt (e := fun _ => true) ht.isList ht2.isList rfl hu (fun j h1 h2 => absurd h2 (by simp)) ⟨.bl _, H, I, rfl, q⟩
  | cons x xs =>
    refine SeqAt.eq_list_lengthsAt ht.isList ht2.isList ?_ hu ⟨.bl _, H, I, rfl, q⟩
    cases its with
    | nil => simp at l1
    | cons y ys => simp
theorem op_ne_lst0 (hu : X.A.units < cLine) : OpR X (compareOp .NotEq) (rL0 X.K true) := by
  intro pins s σ H x y v u Q I rx ry h
  obtain ⟨a, b, xs, rfl, rfl, ha, hb, q⟩ := h
  cases rx
  cases ry
  obtain ⟨its, rv, ht, hz⟩ := I.list ha
  obtain ⟨its2, rv2, ht2, hz2⟩ := I.list hb
  have l1 := rv.length
  have l2 := rv2.length
  have e2 : its2 = [] := List.length_eq_zero_iff.mp (by simpa using l2.symm)
  subst e2
  cases xs with
  | nil =>
    have e1 : its = [] := List.length_eq_zero_iff.mp (by simpa using l1.symm)
    subst e1
    exact (SeqAt.RcNeAt.lists (e := fun _ => true) ht.isList ht2.isList rfl hu (fun j h1 h2 => absurd h2 (by simp))) X.prog X.w _ _ ⟨.bl _, H, I, rfl, q⟩
  | cons x xs =>
    refine (SeqAt.RcNeAt.lists_lengths ht.isList ht2.isList ?_ hu) X.prog X.w _ _ ⟨.bl _, H, I, rfl, q⟩
    cases its with
    | nil => simp at l1
    | cons y ys => simp
end
section
variable {J : It} {n : Nat} {G : Hp → Prop} {Y : Nat → Hp → V → Hp → Prop}
/-- a comprehension with a test, the heap growing -/
theorem lc_filt (w : Walk J n G Y) {g : TG} {tt : TT} {te : TE} {vs : List Nat} {σ : L2.St} {H1 : Hp} {D : Addr} {Qd : Hp → Prop} (hD : H1 D = none) (hG : ∀ H', Evl.Ex H1 H' → G H') (b : Nat → Bool) (v : Nat → V) (hz : n ≤ 100000)
    (hY : ∀ j H2 x H3, j < n → Evl.Ex H1 H2 → Y j H2 x H3 → Evl.Ex H2 H3)
    (hs : ∀ j x H2 H3, j < n → Evl.Ex H1 H2 → Evl.Ex H1 H3 → Y j H2 x H3 → ∀ (Qa : V → Hp → Prop) (Qb : Hp → Prop), (∀ H4, Evl.Ex H3 H4 → b j = true → Qa (v j) H4) → (∀ H4, Evl.Ex H3 H4 → b j = false → Qb H4) →
      g x (wipe σ vs) H3 fun σ2 H4 => wipe σ2 vs = wipe σ vs ∧ tt σ2 H4 fun bb H5 => if bb = true then te σ2 H5 Qa else Qb H5)
    (hd : ∀ H', Evl.Ex H1 H' → H' D = some (.lst (((List.range n).filter b).map v)) → Qd H') :
    ∃ W : Nat → Nat → Hp → Prop, (∃ m, W 0 m (upd H1 D (.lst []))) ∧ ∀ i m H, W i m H →
      (J.stop i H ∧ Qd H) ∨ (J.go i H ∧ ∃ Nx : Hp → Prop, (∀ H', Nx H' → ∃ m', m' < m ∧ W (i + 1) m' H') ∧ ∀ x H', J.yld i H x H' → g x (wipe σ vs) H' fun σ2 H2 => wipe σ2 vs = wipe σ vs ∧ tt σ2 H2 fun b H3 =>
        if b = true then te σ2 H3 fun y H4 => ∃ acc, H4 D = some (.lst acc) ∧ acc.length < sizeLine ∧ Nx (upd H4 D (.lst (acc ++ [y]))) else Nx H3) := by
  refine lc_it w (fun j H' => Evl.Ex H1 H' ∧ H' D = some (.lst (((List.range j).filter b).map v))) ⟨Evl.Ex.new hD, upd_same⟩ (fun i H hi p => hG H p.1) ?_ (fun H p => hd H p.1 p.2)
  rintro j x H2 H3 hj ⟨e, hd2⟩ hy
  have e3 := hY j H2 x H3 hj e hy
  refine hs j x H2 H3 hj e (e.trans e3) hy _ _ (fun H4 e4 hb => ?_) (fun H4 e4 hb => ?_)
  · refine ⟨_, e4 _ _ (e3 _ _ hd2), ?_, ((e.trans e3).trans e4).mut hD, ?_⟩
    · rw [List.length_map]
      have := List.length_filter_le b (List.range j)
      rw [List.length_range] at this
      exact Evl.sz_lt (by omega)
    · rw [upd_same, List.range_succ, List.filter_append, List.map_append]
      simp [hb]
  · refine ⟨(e.trans e3).trans e4, ?_⟩
    rw [e4 _ _ (e3 _ _ hd2), List.range_succ, List.filter_append, List.map_append]
    simp [hb]
end
theorem filt_empty {n : Nat} {b : Nat → Bool} {v : Nat → V} : (((List.range n).filter b).map v).isEmpty = (List.range n).all fun i => !b i := by
  induction n with
  | zero => rfl
  | succ n ih =>
    rw [List.range_succ, List.filter_append, List.map_append, List.all_append, ← ih]
    cases hb : b n <;> simp [hb]
end EX2
set_option Elab.async false
set_option linter.all false
set_option maxRecDepth 100000
set_option maxHeartbeats 4000000
/-! data without lists; comprehensions that draw; a list or a tuple walked -/
namespace EX2
open PySem PySem.Spec PyProof.Rows L2
mutual
def noL : PyData → Bool
  | .list _ => false
  | .dict _ => false
  | .tuple ds => noLs ds
  | _ => true
def noLs : List PyData → Bool
  | [] => true
  | d :: ds => noL d && noLs ds
end
theorem noLs_mem {ds : List PyData} (h : noLs ds = true) : ∀ d ∈ ds, noL d = true := by
  induction ds with
  | nil => intro d hd; cases hd
  | cons e es ih =>
    simp only [noLs, Bool.and_eq_true] at h
    intro d hd
    rcases List.mem_cons.mp hd with rfl | hd
    · exact h.1
    · exact ih h.2 d hd
theorem noLs_of {ds : List PyData} (h : ∀ d ∈ ds, noL d = true) : noLs ds = true := by
  induction ds with
  | nil => rfl
  | cons e es ih =>
    simp only [noLs, Bool.and_eq_true]
    exact ⟨h e List.mem_cons_self, ih fun d hd => h d (List.mem_cons_of_mem _ hd)⟩
theorem noLs_app {a b : List PyData} (ha : noLs a = true) (hb : noLs b = true) : noLs (a ++ b) = true :=
  noLs_of fun d hd => (List.mem_append.mp hd).elim (noLs_mem ha d) (noLs_mem hb d)
section
variable {H : Hp} {D : Addr} {o : HO} {l : List V}
mutual
theorem Dq.mutD (hD : H D = some (.lst l)) : ∀ {x : V} {d : PyData}, Dq H x d → noL d = true → Dq (upd H D o) x d
  | _, _, .non, _ => .non
  | _, _, .bl b, _ => .bl b
  | _, _, .int i, _ => .int i
  | _, _, .str x, _ => .str x
  | _, _, .lst q h, n => by cases n
  | _, _, .tup (a := a) q h, n => .tup (by rw [upd_ne (ne_of q hD (fun z => nomatch z))]; exact q) (DqAll.mutD hD h n)
  | _, _, .dk q h, n => by cases n
theorem DqAll.mutD (hD : H D = some (.lst l)) : ∀ {xs : List V} {ds : List PyData}, DqAll H xs ds → noLs ds = true → DqAll (upd H D o) xs ds
  | _, _, .nil, _ => .nil
  | _, _, .cons h t, n => by
    simp only [noLs, Bool.and_eq_true] at n
    exact .cons (Dq.mutD hD h n.1) (DqAll.mutD hD t n.2)
end
end
theorem rm_upd {p D : Addr} {H : Hp} {o : HO} (h : D ≠ p) : rm p (upd H D o) = upd (rm p H) D o := by
  funext a
  by_cases ha : a = p
  · subst ha
    rw [upd_ne (Ne.symm h)]
    simp [rm]
  · rw [rm_ne ha]
    by_cases hb : a = D
    · subst hb; rw [upd_same, upd_same]
    · rw [upd_ne hb, upd_ne hb, rm_ne ha]
theorem rm_same {p : Addr} {H : Hp} {o : HO} : rm p (upd H p o) = rm p H := by
  funext a
  by_cases ha : a = p
  · subst ha; simp [rm]
  · rw [rm_ne ha, rm_ne ha, upd_ne ha]
theorem DzAll.mutD {p D : Addr} {H : Hp} {o : HO} {l : List V} {xs : List V} {ds : List PyData} (hD : H D = some (.lst l)) (np : D ≠ p) (h : DzAll p H xs ds) (n : noLs ds = true) : DzAll p (upd H D o) xs ds := by
  show DqAll (rm p (upd H D o)) xs ds
  rw [rm_upd np]
  exact DqAll.mutD (l := l) (by rw [rm_ne np]; exact hD) h n
theorem Dz.mutD {p D : Addr} {H : Hp} {o : HO} {l : List V} {x : V} {d : PyData} (hD : H D = some (.lst l)) (np : D ≠ p) (h : Dz p H x d) (n : noL d = true) : Dz p (upd H D o) x d := by
  show Dq (rm p (upd H D o)) x d
  rw [rm_upd np]
  exact Dq.mutD (l := l) (by rw [rm_ne np]; exact hD) h n
section
variable {J : It} {n : Nat} {G : Hp → Prop} {Y : Nat → Hp → V → Hp → Prop}
/-- a comprehension whose elements are drawn -/
theorem lc_lx (w : Walk J n G Y) {p : Addr} {g : TG} {te : TE} {vs : List Nat} {σ : L2.St} {H1 : Hp} {D : Addr} {Qd : Hp → Prop} (s : Sc p H1) (hD : H1 D = none) (hG : ∀ H', Lx p H1 H' → G H') (R : Nat → PyData → Prop) (hz : n ≤ 100000)
    (hY : ∀ j H2 x H3, Y j H2 x H3 → H3 = H2)
    (hs : ∀ j x H2, j < n → Lx p H1 H2 → Y j H2 x H2 → ∀ Qt : V → Hp → Prop, (∀ y d H4, Lx p H2 H4 → Dz p H4 y d → noL d = true → R j d → Qt y H4) → g x (wipe σ vs) H2 fun σ2 H4 => wipe σ2 vs = wipe σ vs ∧ te σ2 H4 Qt)
    (hd : ∀ H' xs ds, Lx p H1 H' → H' D = some (.lst xs) → DzAll p H' xs ds → ds.length = n → noLs ds = true → (∀ i d, ds[i]? = some d → R i d) → Qd H') :
    ∃ W : Nat → Nat → Hp → Prop, (∃ m, W 0 m (upd H1 D (.lst []))) ∧ ∀ i m H, W i m H →
      (J.stop i H ∧ Qd H) ∨ (J.go i H ∧ ∃ Nx : Hp → Prop, (∀ H', Nx H' → ∃ m', m' < m ∧ W (i + 1) m' H') ∧ ∀ x H', J.yld i H x H' → g x (wipe σ vs) H' fun σ2 H2 => wipe σ2 vs = wipe σ vs ∧ tYes σ2 H2 fun b H3 =>
        if b = true then te σ2 H3 fun y H4 => ∃ acc, H4 D = some (.lst acc) ∧ acc.length < sizeLine ∧ Nx (upd H4 D (.lst (acc ++ [y]))) else Nx H3) := by
  have np : D ≠ p := s.ne hD
  refine lc_it w (fun j H' => Lx p H1 H' ∧ ∃ xs ds, H' D = some (.lst xs) ∧ DzAll p H' xs ds ∧ ds.length = j ∧ noLs ds = true ∧ ∀ i d, ds[i]? = some d → R i d)
    ⟨.of s (Evl.Ex.new hD), [], [], upd_same, .nil, rfl, rfl, fun i d h => by simp at h⟩ (fun i H hi q => hG H q.1) ?_ (fun H ⟨l, xs, ds, a, b, c, d, e⟩ => hd H xs ds l a b c d e)
  rintro j x H2 H3 hj ⟨l, xs, ds, hd2, hall, hlen, hno, hR⟩ hy
  obtain rfl := hY j H2 x H3 hy
  have q := hs j x H3 hj l hy (fun y H4 => ∃ acc, H4 D = some (.lst acc) ∧ acc.length < sizeLine ∧ (Lx p H1 (upd H4 D (.lst (acc ++ [y]))) ∧ ∃ xs ds, (upd H4 D (.lst (acc ++ [y]))) D = some (.lst xs) ∧ DzAll p (upd H4 D (.lst (acc ++ [y]))) xs ds ∧ ds.length = j + 1 ∧ noLs ds = true ∧ ∀ i d, ds[i]? = some d → R i d)) ?_
  · simp only [tYes, if_true]
    exact q
  · intro y d H4 l4 hy4 hnd hRd
    have hD4 := l4.at hd2 np
    refine ⟨xs, hD4, ?_, (l.trans l4).mut np hD, xs ++ [y], ds ++ [d], upd_same, ?_, ?_, ?_, ?_⟩
    · rw [DqAll.length hall]
      exact Evl.sz_lt (by omega)
    · exact DqAll.app ((hall.lx l4).mutD hD4 np hno) (.cons (hy4.mutD hD4 np hnd) .nil)
    · rw [List.length_append, hlen]; rfl
    · exact noLs_app hno (by simp only [noLs, Bool.and_true]; exact hnd)
    · intro i e he
      rw [List.getElem?_append] at he
      split at he
      · exact hR i e he
      · rename_i hi
        have hi2 : i = ds.length := by
          rcases Nat.lt_or_ge i (ds.length + 1) with h | h
          · omega
          · rw [List.getElem?_eq_none (by simp; omega)] at he; cases he
        subst hi2
        rw [Nat.sub_self] at he
        cases he
        rw [hlen]
        exact hRd
end
/-! ### a list or a tuple walked -/
def iSeq (K : PySem.W.Frag) (tl : TE) : TI := fun σ H R => tl σ H fun x H1 => ∃ a, x = .ref a ∧ (((∃ xs, SqL K H1 a xs) ∧ R (Itl K a) H1) ∨ ((∃ xs, SqT K H1 a xs) ∧ R (Itt K a) H1))
theorem pi_seqq {X : Cx} {tg l : Expr} {tl : TE} (hl : PE X l tl) : PI X tg l (iSeq X.K tl) := by
  refine ⟨fun pins s σ H R I h => ?_⟩
  refine thn (hl.run pins s σ H _ I h) fun v s1 ⟨x, H1, I1, r1, q1⟩ => ?_
  obtain ⟨a, e, q1⟩ := q1
  subst e
  rcases q1 with ⟨⟨xs, hq⟩, q⟩ | ⟨⟨xs, hq⟩, q⟩
  · cases r1
    obtain ⟨its, rv, p, hz⟩ := I1.list hq
    refine wpAny_pyIter_list p.isList ?_
    refine ⟨s1.heap.objs.size, [s1.heap.objs.size], _, _, H1, rfl, I1.kept (t' := s1.toks) fun b o e => Heap.get?_push_of_some _ e, turn_list a _, ⟨_, Heap.get?_push_size _ rfl, rfl, rfl⟩, fun b hb => ?_, q⟩
    have e : b = s1.heap.objs.size := by simpa using hb
    subst e
    exact I1.fpOk (Nat.le_refl _) (I1.hok.fresh (Nat.le_refl _))
  · cases r1
    obtain ⟨its, rv, p, hz⟩ := I1.tuple hq
    refine wpAny_pyIter_tuple (show s1.heap.IsTuple a its.toArray from p) ?_
    refine ⟨s1.heap.objs.size, [s1.heap.objs.size], _, _, H1, rfl, I1.kept (t' := s1.toks) fun b o e => Heap.get?_push_of_some _ e, turn_tuple a _, ⟨_, Heap.get?_push_size _ rfl, rfl, rfl⟩, fun b hb => ?_, q⟩
    have e : b = s1.heap.objs.size := by simpa using hb
    subst e
    exact I1.fpOk (Nat.le_refl _) (I1.hok.fresh (Nat.le_refl _))
end EX2
set_option Elab.async false
set_option linter.all false
set_option maxRecDepth 100000
set_option maxHeartbeats 4000000
/-! l.extend(t), t a tuple -/
namespace EX2
open PySem PySem.Spec PyProof.Rows L2
theorem notLongL' {n : Nat} (h : n ≤ sizeLine) : Builtin.List.listTooLong n = false := by
  unfold Builtin.List.listTooLong
  have := sizeLine_eq
  exact decide_eq_false (by omega)
open AutoSeq1 in
theorem list_extend_tupG (l : Addr) (items : Array Value) (n : Nat) (b : Addr) (items2 : Array Value) (n2 : Nat) (dd : Option Addr) (sl : Array (Option Value)) (hs0 : ¬(!items.isEmpty && Builtin.List.listTooLong (items.size + items2.size)) = true) (hs1 : items.size ≤ sizeLine) (hs2 : items.size + items2.size ≤ sizeLine + 1) :
    Meets (Builtin.«list.extend» ⟨[.ref l, .ref b], []⟩) (fun _ R s => s.heap.get? l = some { cls := .type "list", dict := none, data := .seq items n, slots := #[] } ∧ s.heap.get? b = some { cls := .type "tuple", dict := dd, data := .seq items2 n2, slots := sl } ∧ R (.ok (.ret Value.none)) { s with heap := s.heap.update l (Obj.mapSeq fun x => x ++ items2), toks := s.toks }) :=
  .of_wp fun prog w A R s h => by
    obtain ⟨hp, g, d, tk, os⟩ := s; obtain ⟨hl, hb, h⟩ := h; have f1 := AutoSeq1.idx_int; have f2 := AutoSeq1.sub_tuple_tuple; have f3 := AutoSeq1.sub_list_list; have f4 := AutoSeq1.sub_tuple_list; have f5 := AutoSeq1.sub_list_tuple;
    have hz' : (items ++ items2).size ≤ sizeLine + 1 := by rw [Array.size_append]; exact hs2
    wp_walk using (wpAny_updateSeq hl rfl (hz := hs1) (_hz' := hz')), wpAny_loadPart' hl, wpAny_loadPart' hb; exact ⟨_, rfl, h⟩
def rExtT (K : PySem.W.Frag) : V → List V → Hp → VK → Prop := fun x vs H Q => ∃ (l b : Addr) (xs zs : List V), x = .ref l ∧ vs = [.ref b] ∧ H l = some (.lst xs) ∧ SqT K H b zs ∧ xs.length + zs.length ≤ sizeLine ∧ Q .non (upd H l (.lst (xs ++ zs)))
theorem mt_extT {X : Cx} : MtM X "list.extend" (rExtT X.K) := by
  intro pins s σ H x vs v us Q I rx rv h
  obtain ⟨l, b, xs, zs, rfl, rfl, hH, hB, hz, q⟩ := h
  cases rx
  obtain ⟨u, rfl, ru⟩ := rv.one
  cases ru
  obtain ⟨z, its, n, r, hl, e⟩ := I.lstM hH
  obtain ⟨its2, r2, ⟨o2, e2, c2, n2, d2⟩, hz2⟩ := I.tuple hB
  obtain ⟨oc, dd, od, sl⟩ := o2
  dsimp only at c2 d2
  subst c2 d2
  have l1 := r.length
  have l2 := r2.length
  have hsz : its.toArray.size + its2.toArray.size ≤ sizeLine := by rw [List.size_toArray, List.size_toArray]; omega
  have hlong : ¬ (!its.toArray.isEmpty && Builtin.List.listTooLong (its.toArray.size + its2.toArray.size)) = true := by
    rw [notLongL' hsz, Bool.and_false]
    exact Bool.false_ne_true
  refine call_meets F.slot_list_extend ⟨_, e, rfl⟩ F.entry_list_extend (F.args_list_extend_2 _ _)
    (list_extend_tupG l its.toArray n b its2.toArray n2 dd sl hlong (by rw [List.size_toArray]; omega) (by omega)) ⟨e, e2, ?_⟩
  refine ⟨.non, _, I.lset (its' := its ++ its2) hH e (by simp) (r.append r2) ?_, rfl, q⟩
  rw [List.length_append]
  omega
end EX2
set_option Elab.async false
set_option linter.all false
set_option maxRecDepth 100000
set_option maxHeartbeats 4000000
/-! an instance's attributes as targets of a tuple assignment; data beside an instance -/
namespace EX2
open PySem PySem.Spec PyProof.Rows L2
def gFld (K : PySem.W.Frag) (f : Str) (to : TE) : TG := fun y σ H Q => to σ H fun x H2 => ∃ (a C dx : Addr) (fs : List (Str × V)), x = .ref a ∧ H2 a = some (.ins C dx fs) ∧ Cls K C ∧ NoAttr K C f ∧ fs.length < 1000 ∧ Q σ (upd H2 a (.ins C dx (putF f y fs)))
theorem pg_fld {X : Cx} {o : Expr} {to : TE} {f : Str} {p : Pos} (ho : PE X o to) : PG X (.Attribute o f p) (gFld X.K f to) := by
  refine ⟨fun pins s σ H v u Q I r h => ?_⟩
  refine PySem.W.kas_attr (thn (ho.run pins s σ H _ I h) fun ov s2 ⟨x, H2, I2, r2, a, C, dx, fs, ex, ea, c, n, l, q⟩ => ?_)
  subst ex
  obtain rfl : ov = Value.ref a := r2
  exact setattr_ok I2 ea c n l r fun s3 I3 => ⟨σ, _, I3, q⟩
theorem no_swap3 {env : Env} (hk : env.scope.kind = .function) {o1 o2 o3 : Expr} {a1 a2 a3 : Str} {q1 q2 q3 q4 : Pos} {n1 : Nat} {v : Expr} : swappedStores [.Tuple [.Attribute o1 a1 q1, .Attribute o2 a2 q2, .Attribute o3 a3 q3] n1 q4] v env = pure none := by
  have e : env.blockKind = .function := by
    unfold Env.blockKind
    rw [hk]
    rfl
  unfold swappedStores
  cases v <;> first | rfl | skip
  rename_i vs _ _
  simp only [e]
  split
  · rfl
  · split
    · rfl
    · rename_i h
      split
      · rfl
      · rename_i h2
        exact absurd (by rfl) h2
section
variable {H H' : Hp} {a C dx : Addr} {fs : List (Str × V)}
mutual
theorem Dq.fr (ha : H a = some (.ins C dx fs)) (k : ∀ b o, b ≠ a → H b = some o → H' b = some o) : ∀ {x : V} {d : PyData}, Dq H x d → Dq H' x d
  | _, _, .non => .non
  | _, _, .bl b => .bl b
  | _, _, .int i => .int i
  | _, _, .str x => .str x
  | _, _, .lst q h => .lst (k _ _ (ne_of q ha (fun z => nomatch z)) q) (DqAll.fr ha k h)
  | _, _, .tup q h => .tup (k _ _ (ne_of q ha (fun z => nomatch z)) q) (DqAll.fr ha k h)
  | _, _, .dk q h => .dk (k _ _ (ne_of q ha (fun z => nomatch z)) q) (DqAll.fr ha k h)
theorem DqAll.fr (ha : H a = some (.ins C dx fs)) (k : ∀ b o, b ≠ a → H b = some o → H' b = some o) : ∀ {xs : List V} {ds : List PyData}, DqAll H xs ds → DqAll H' xs ds
  | _, _, .nil => .nil
  | _, _, .cons h t => .cons (Dq.fr ha k h) (DqAll.fr ha k t)
end
end
/-- a method's object -/
structure MethAt (C : Addr) (H : Hp) (m : V) (n : V) (ps : List PyData) (r : V) (sz : V) (cd : List PyData) : Prop where
  ex : ∃ (x dx : Addr) (p c : V), m = .ref x ∧ H x = some (.ins C dx [("own_name", n), ("own_params", p), ("own_result", r), ("own_size", sz), ("own_code", c)]) ∧ Dq H p (.tuple ps) ∧ Dq H c (.tuple cd)
theorem MethAt.ext {C : Addr} {H H' : Hp} {m n r sz : V} {ps cd : List PyData} (h : MethAt C H m n ps r sz cd) (e : Evl.Ex H H') : MethAt C H' m n ps r sz cd := by
  obtain ⟨x, dx, p, c, h1, h2, h3, h4⟩ := h.ex
  exact ⟨x, dx, p, c, h1, e _ _ h2, h3.ext e, h4.ext e⟩
end EX2
set_option Elab.async false
set_option linter.all false
set_option maxRecDepth 100000
set_option maxHeartbeats 2000000
/-! raising an own exception with a super().__init__; an own class made in a try; isinstance of the caught one -/
namespace EX2
open PySem PySem.Spec PyProof.Rows L2
/-- raise C(e, ..) -/
def tMkR (C : Addr) (n : Nat) (fs : List V → List (Str × V)) (ta : TA) : L2.St → Hp → XK → Prop := fun σ H Q => ta σ H fun vs H1 => vs.length = n ∧ ∀ (dx : Addr) (H' : Hp), Evl.Ex H1 H' → H' dx = some (.xd (fs vs)) → Q (.ref C) (some dx) H'
section
variable {X : Cx} {e : Expr} {es : List Expr} {ta : TA} {p pos : Pos}
theorem pmk_xk {x : Str} {C fI : Addr} {k n : Nat} {fd : FuncData} {ps : List Str} {fs : List V → List (Str × V)} (T : ExK X.K C) (iC : PySem.W.findIn X.K (.ref C) "__init__" = some (some (.ref fI))) (tI : PySem.W.typeIn X.K (.ref fI) = some (.type "function"))
    (F1 : FnOk X.prog X.w X.K X.mg X.base CX0 k fI fd ps (spX C n fs)) (hr : Room (k + 1) X.A) (hb : Binds X.K fd ps []) (hg : Gl X x) (hm : X.mg x = some (.ref C)) (hn : n ≤ 1000) (ha : PA X (e :: es) ta)
    (hdb : (x == ("__debug__" : Str)) = false := by decide) (he : starEach (e :: es) X.env = (false, eval e X.env) :: starEach es X.env := by rfl) (hpl : (backTo pos (starEach es X.env)).any (·.1) = false := by rfl) :
    PMk X (.Call (.Name x p) (e :: es) [] pos) (tMkR C n fs ta) := by
  intro pins s σ H Q I h
  refine wpAny_Call_Name_kw (ld_glob I hg hm ?_ hdb)
  refine PySem.W.callWith_K (h₀ := X.base) I.ok.mod.kin T.kC (thn (ha.run pos pins s σ H _ I h) fun us s1 ⟨vs, H1, I1, r1, hz, q1⟩ => ⟨I1.kIn, ?_⟩) he hpl
  show wpAny _ _ (call (.ref C) us) _ _ _
  obtain ⟨nm, Nn, qd, bs, bm, hdct, sn, sub, ab, col, dd, k0, k1, k2, k3, k5, hC, hT⟩ := PySem.W.excInit_of I1.kIn T.init
  obtain ⟨hp, g, dr, tk, os⟩ := s1
  have hsz : hp.objs.size ≤ hp.objs.size + 1 := Nat.le_succ _
  have hn1 : H1 (hp.objs.size + 1) = none := I1.hok.fresh hsz
  have kk : ∀ b o, hp.get? b = some o → ((hp.push (PySem.W.kdv_tup us)).push (PySem.HandSPX.excO C hp.objs.size)).get? b = some o := fun b o e => Heap.get?_push_of_some _ (Heap.get?_push_of_some _ e)
  have hget : ((hp.push (PySem.W.kdv_tup us)).push (PySem.HandSPX.excO C hp.objs.size)).get? (hp.objs.size + 1) = some (PySem.HandSPX.excO C hp.objs.size) := by heap_get
  have I2 : Inv X pins σ (upd H1 (hp.objs.size + 1) (exo (hp.objs.size + 1) C none)) ⟨(hp.push (PySem.W.kdv_tup us)).push (PySem.HandSPX.excO C hp.objs.size), g, dr, tk, os⟩ :=
    I1.laid (t' := tk) (a := hp.objs.size + 1) (o := exo (hp.objs.size + 1) C none) (h' := (hp.push (PySem.W.kdv_tup us)).push (PySem.HandSPX.excO C hp.objs.size)) kk hsz (exo_ok hget)
  have r2 : Vals (V.ref (hp.objs.size + 1) :: vs) (Value.ref (hp.objs.size + 1) :: us) := .cons rfl r1
  have hus : us.length ≤ sizeLine := by
    rw [← Paired.length r1, hz, sizeLine_eq]
    omega
  have hsp : spX C n fs (V.ref (hp.objs.size + 1) :: vs) (upd H1 (hp.objs.size + 1) (exo (hp.objs.size + 1) C none)) (fun v H2 => v = .non ∧ ∃ d, H2 (hp.objs.size + 1) = some (exo (hp.objs.size + 1) C (some d)) ∧ H2 d = some (exd d (fs vs)) ∧ H1 d = none ∧
      Q (.ref C) (some d) (upd (L2.del H2 (hp.objs.size + 1)) d (.xd (fs vs)))) (fun _ _ _ => False) := by
    refine ⟨_, vs, rfl, hz, upd_same, fun H' dx k1 hd hne h1 h2 => ⟨rfl, dx, h1, h2, ?_, ?_⟩⟩
    · rw [upd_ne hne] at hd
      exact hd
    · rw [upd_ne hne] at hd
      refine q1 dx _ (fun b o hb => ?_) upd_same
      have hba : b ≠ hp.objs.size + 1 := ne_of_none hb hn1
      rw [upd_ne (ne_of_none hb hd), L2.del_ne hba]
      refine k1 b o hba ?_
      rw [upd_ne hba]
      exact hb
  have hlen := F1.len _ _ _ _ hsp
  have hbt := hb ⟨(hp.push (PySem.W.kdv_tup us)).push (PySem.HandSPX.excO C hp.objs.size), g, dr, tk, os⟩ (Value.ref (hp.objs.size + 1) :: us) I2.kIn (by rw [List.append_nil, ← r2.length]; exact hlen)
  rw [List.append_nil] at hbt
  refine wpAny_call (PySem.HandSPX.call_own F.excBase_Exception hT hC (PySem.W.looks_findIn I1.kIn iC) (fun self => PySem.W.bind_fn I1.kIn self tI) hus
    (codeAny_mono (F1.run _ X.stack _ _ ⟨Value.ref (hp.objs.size + 1) :: us, []⟩ (Value.ref (hp.objs.size + 1) :: us) _ _ (fun _ _ _ => False) (hr.make C us []) (I2.env0.make C us []) hbt r2 hsp) fun r s' hq' => ?_))
  cases r with
  | error er => exact False.elim hq'
  | ok fl =>
    cases fl with
    | ret u =>
      obtain ⟨v, H2, os2, bare2, un2, hok2, rv, ev, d, ea, ed, hd1, q2⟩ := hq'
      subst ev
      obtain ⟨h2, g2, d2, t2, os'⟩ := s'
      exact ⟨rv, mk_end (raises_own T.exC T.tyC) I1 hsz kk un2 hok2 os2 bare2 ea ed hd1 q2⟩
    | next => exact False.elim hq'
    | brk => exact False.elim hq'
    | cont => exact False.elim hq'
end
/-! ### a class made, at the slots σ -/
section
variable {X : Cx} {CX : CXT} {k : Nat} {f C : Addr} {fd : FuncData} {ps : List Str} {sp : Sp} {E : L2.St → XK} {x : Str} {p pos : Pos} {e : Expr} {es : List Expr} {t : TA}
def tMakeS (C : Addr) (sp : Sp) (E : L2.St → XK) (t : TA) : TE := fun σ H Q => t σ H fun vs H1 => ∀ x dx, H1 x = none → H1 dx = none → dx ≠ x → sp (.ref x :: vs) (upd (upd H1 dx (.own x)) x (.ins C dx [])) (fun v H2 => v = .non ∧ Q (.ref x) H2) (E σ)
theorem pe_makeS (M : Mk X.K C f) (F : FnOk X.prog X.w X.K X.mg X.base CX k f fd ps sp) (hr : Room (k + 1) X.A) (hg : Gl X x) (hm : X.mg x = some (.ref C)) (hb : Binds X.K fd ps []) (hx : ∀ σ, PassesAt CX X σ (E σ))
    (ha : PA X (e :: es) t) (hdb : (x == ("__debug__" : Str)) = false := by decide) (he : starEach (e :: es) X.env = (false, eval e X.env) :: starEach es X.env := by rfl) (hpl : (backTo pos (starEach es X.env)).any (·.1) = false := by rfl) :
    PE X (.Call (.Name x p) (e :: es) [] pos) (tMakeS C sp E t) := by
  refine ⟨fun pins s σ H Q I h => ?_⟩
  refine wpAny_Call_Name_kw (ld_glob I hg hm ?_ hdb)
  refine PySem.W.callWith_K (h₀ := X.base) I.ok.mod.kin M.kp (thn (ha.run pos pins s σ H _ I h) fun us s1 ⟨vs, H1, I1, r, q⟩ => ⟨I1.kIn, ?_⟩) he hpl
  have hq := q (s1.heap.objs.size + 1) s1.heap.objs.size (I1.hok.fresh (Nat.le_succ _)) (I1.hok.fresh (Nat.le_refl _)) (Nat.ne_of_lt (Nat.lt_succ_self _))
  have I2 := Inv.made (C := C) I1
  have r2 : Vals (V.ref (s1.heap.objs.size + 1) :: vs) (Value.ref (s1.heap.objs.size + 1) :: us) := .cons rfl r
  have hl : (Value.ref (s1.heap.objs.size + 1) :: us).length = ps.length := by
    have e := r2.length
    rw [F.len _ _ _ _ hq] at e
    exact e.symm
  have hbt := hb _ (Value.ref (s1.heap.objs.size + 1) :: us) I2.kIn (by rw [List.append_nil]; exact hl)
  rw [List.append_nil] at hbt
  refine wpAny_call (make_map (f := f) I1.kIn M.makes M.init (beq_iff_eq.mp M.fn) (codeAny_mono (F.run _ X.stack _ _ ⟨Value.ref (s1.heap.objs.size + 1) :: us, []⟩ (Value.ref (s1.heap.objs.size + 1) :: us) _ _ (E σ) (hr.make C us [])
    (I2.env0.make C us []) hbt r2 hq) fun r s' hq' => ?_))
  cases r with
  | error e => exact hx σ pins _ _ e s' I2 hq'
  | ok fl =>
    cases fl with
    | ret u =>
      obtain ⟨v, H', I3, rv, ev, q3⟩ := I2.after hq'
      subst ev
      exact ⟨rv, ⟨V.ref (s1.heap.objs.size + 1), H', I3, rfl, q3⟩⟩
    | next => exact False.elim hq'
    | brk => exact False.elim hq'
    | cont => exact False.elim hq'
end
/-- isinstance(e, c), e the caught exception with its dict -/
def rIsXE (K : PySem.W.Frag) (a : Addr) (cls : Value) (d : Option Addr) : List V → Hp → VK → Prop := fun xs H Q => ∃ (C dd : Addr) (fs : List (Str × V)) (c : V) (u : Value) (b : Bool), xs = [.ref a, c] ∧ ClsV c u ∧ cls = .ref C ∧ d = some dd ∧ H dd = some (.xd fs) ∧ ExcC K C ∧ PySem.W.kitOne K (.ref C) u = some b ∧ Q (.bl b) H
theorem call_isXE {X : Cx} {a : Addr} {oe : Obj} {cls : Value} {d : Option Addr} {pn : List (Addr × Obj)} (hz : Zc cls d oe) (hf : ∃ vs, oe.data = .fields vs) : CallR (X.suite a ((a, oe) :: pn)) (.builtin "isinstance") (rIsXE X.K a cls d) := by
  intro pins s σ H xs us Q I r h
  obtain ⟨C, dd, fs, c, u, b, rfl, k, ec, ed, hd, T, e, q⟩ := h
  subst ec ed
  obtain ⟨u1, u2, rfl, r1, r2⟩ := vals2 r
  have e2 := k.eq r2
  subst e2
  obtain rfl : u1 = Value.ref a := r1
  obtain ⟨hget, _⟩ := I.pin (a, oe) (List.mem_append.mpr (.inl List.mem_cons_self))
  obtain ⟨vs, hv⟩ := hf
  obtain ⟨mA, hns, rel⟩ : ObjOk X.prog X.w H s.heap dd (.xd fs) := I.hok dd _ hd
  obtain ⟨od, hod, hl⟩ := lookIn_ns hns
  have J : PySem.W.InstAt s.heap a oe C (some od) := by
    obtain ⟨oc, odd, oda, osl⟩ := oe
    obtain ⟨h1, h2⟩ := hz
    dsimp only at h1 h2 hv
    subst h1 h2 hv
    exact ⟨hget, rfl, rfl, hod⟩
  exact PySem.W.kia_one (PySem.W.kitx_excD T.hg T.hk T.hs T.hd T.ha T.hn T.ht T.hm) I.kIn J e (fun z => nomatch z) fun tk => ⟨.bl b, H, I.tok tk, rfl, q⟩
end EX2
set_option Elab.async false
set_option linter.all false
set_option maxRecDepth 100000
set_option maxHeartbeats 2000000
/-! x == y, x an instance of a class with its own == -/
namespace EX2
open PySem PySem.Spec PyProof.Rows L2
def rEqI (C : Addr) (sp : Sp) : R2 := fun x y H Q => ∃ (a dx : Addr) (fs : List (Str × V)) (b : Addr), x = .ref a ∧ y = .ref b ∧ H a = some (.ins C dx fs) ∧ ((∃ dy gs, H b = some (.ins C dy gs)) ∨ ∃ xs, H b = some (.lst xs)) ∧
  sp [.ref a, .ref b] H (fun v H' => ∃ r, v = .bl r ∧ Q (.bl r) H') E0
theorem op_eqI {X : Cx} {C f : Addr} {n : Nat} {fd : FuncData} {ps : List Str} {sp : Sp} (F : FnOk X.prog X.w X.K X.mg X.base CX0 n f fd ps sp) (hs : PySem.W.findIn X.K (.ref C) "__eq__" = some (some (.ref f))) (hf : PySem.W.isFn X.K (.ref f) = true) (hb : Binds X.K fd ps []) (hr : Room n X.A) :
    OpR X (compareOp .Eq) (rEqI C sp) := by
  intro pins s σ H x y v u Q I rx ry h
  obtain ⟨a, dx, fs, b, rfl, rfl, ha, hb', hsp⟩ := h
  cases rx
  cases ry
  show wpAny (model X.prog X.w) X.A (richCompare .Eq (.ref a) (.ref b)) (EP X pins σ Q) X.xe s
  obtain ⟨mA, J, _⟩ := ins_get I.hok ha
  obtain ⟨od, J, _⟩ := J.look
  obtain ⟨m, hF⟩ := I.fr
  have hy : ∃ tb, PySem.W.Looks (model X.prog X.w) s.heap (typeOf (.ref b)) tb ∧ PySem.W.notFirst X.K C tb = true := by
    rcases hb' with ⟨dy, gs, hb'⟩ | ⟨xs, hb'⟩
    · obtain ⟨mB, J', _⟩ := ins_get I.hok hb'
      obtain ⟨od', J', _⟩ := J'.look
      exact ⟨.ref C, J'.type, by simp [PySem.W.notFirst]⟩
    · obtain ⟨_, its, nn, _, hg⟩ : ObjOk X.prog X.w H s.heap b (.lst xs) := I.hok b _ hb'
      exact ⟨.type "list", fun A Q E s k q => wpAny_typeOf_ref (k _ _ hg) q, by
        have e : PySem.W.subIn X.K (.type "list") (.ref C) = some false := by
          show Option.map (fun x => x.contains (Value.ref C)) (fastBuiltinMro "list") = some false
          rw [show fastBuiltinMro "list" = some [.type "list", .type "object"] from by kernel_rfl]
          rfl
        unfold PySem.W.notFirst
        rw [e]
        rfl⟩
  obtain ⟨tb, LT, hn⟩ := hy
  refine PySem.W.cmp_K (op := .Eq) (tb := tb) hr.units0 hF I.ok.mod.kin J LT hn hs hf ?_
  have hl := F.len _ _ _ _ hsp
  have r2 : Vals [V.ref a, V.ref b] [Value.ref a, Value.ref b] := .cons rfl (.cons rfl .nil)
  refine wpAny_call (codeAny_mono (F.run X.A X.stack s H ⟨[.ref a, .ref b], []⟩ [.ref a, .ref b] [.ref a, .ref b] _ E0 hr I.env0 (by
    have := hb s [.ref a, .ref b] I.kIn (by simpa using hl)
    simpa using this) r2 hsp) fun r s' hq => ?_)
  cases r with
  | error e => exact hq.elim
  | ok fl =>
    cases fl with
    | ret w =>
      obtain ⟨z, H', I', rz, r, ez, q⟩ := I.after hq
      subst ez
      cases rz
      exact ⟨.bl r, H', I', rfl, q⟩
    | next => exact False.elim hq
    | brk => exact False.elim hq
    | cont => exact False.elim hq
end EX2
set_option Elab.async false
set_option linter.all false
set_option maxRecDepth 100000
set_option maxHeartbeats 4000000
/-! x != y, both instances of a class with its own == and no own != -/
namespace EX2
open PySem PySem.Spec PyProof.Rows L2
theorem ne_slot : Slot "object" "__ne__" "object.__ne__" := Slot.of (T := "object") (name := "__ne__") (owner := "object") (n := "__ne__") (by rw [typeLookup_type, builtinLookup_eq_fast]; kernel_rfl) (by decide +kernel) (by decide +kernel) (by decide +kernel)
    (.inl (by decide +kernel)) (by rw [isSubtype_type]; kernel_rfl)
section
variable {prog : Program} {w : World} {A : Around} {E : Value → Shared → Prop} {s : Shared} {K : PySem.W.Frag} {x C f : Addr} {ox : Obj} {od : Option Obj} {y : Value}
open PySem.W
theorem ifBound_B {M : Model} {args : List Value} {Q : Option Value → Shared → Prop} {name : Str} {i : String} (X : K.In s.heap) (I : InstAt s.heap x ox C od) (hs : findIn K (.ref C) name = some (some (.builtin i))) (hb : ∀ self, bindSpecial (.builtin i) self = pure (.builtin i, [self]))
    (h : wpAny M A (call (.builtin i) (.ref x :: args)) (fun v => Q (some v)) E s) : wpAny M A (callSpecialIfBound? (.ref x) name args) Q E s := by
  simp only [callSpecialIfBound?, bindSpecialIfBound?]
  refine wpAny_holding (wpAny_bind (wpAny_bind (wpAny_bind (I.type.here ((looks_findIn X hs).here ?_)))))
  refine wpAny_bind (wpAny_askSetting (wpAny_ite ?_))
  have fin : wpAny M A (call (.builtin i) ([.ref x] ++ args) >>= fun v => pure (some v)) Q E s := wpAny_bind (wpAny_mono h (fun v s' h' => wpAny_pure h') fun _ _ h' => h')
  split
  · exact wpAny_bind ((Looks.of_pure (hb _)).here (wpAny_pure (by exact fin)))
  · exact wpAny_tryCatch (wpAny_bind ((Looks.of_pure (hb _)).here (wpAny_pure (by exact fin))))
theorem tryNe_K {Q : Value → Shared → Prop} (X : K.In s.heap) (I : InstAt s.heap x ox C od) (hn : findIn K (.ref C) "__ne__" = some (some (.builtin "object.__ne__"))) (hs : findIn K (.ref C) "__eq__" = some (some (.ref f))) (hf : isFn K (.ref f) = true)
    (hm : mroIn K C (.type "object") = some true) (hu : A.in1.units < cLine)
    (h : wpAny (model prog w) A.in1 (call (.ref f) [.ref x, y]) (fun v s' => ∃ b, v = .bool b ∧ Q (.bool (!b)) s') E s) :
    wpAny (model prog w) A (tryCompare (.ref x) "__ne__" y) (fun r s' => ∃ v, r = some v ∧ Q v s') E s := by
  have sub : Looks (model prog w) s.heap (isInstance (.ref x) (.type "object")) true := I.type.andThen (looks_mroIn X hm)
  unfold tryCompare
  have ent : wpAny (model prog w) A.in1 (Builtin.«object.__ne__» ⟨[.ref x, y], []⟩)
      (fun fin s' => match fin with | .done f => (wants (fun v s' => v ≠ .notImplemented ∧ Q v s') E) (.ok f) s' | .again c' => c'.quiet = true ∧ codeAny (model prog w) A c' (wants (fun v s' => v ≠ .notImplemented ∧ Q v s') E) s') (fun e s' => (wants (fun v s' => v ≠ .notImplemented ∧ Q v s') E) (.error e) s') s := by
    unfold Builtin.«object.__ne__»
    repeat (first
      | with_reducible refine wpAny_cRoomFor hu ?_
      | (refine wpAny_bind (m := callSpecialIfBound? (.ref x) (Str.ofString "__eq__") [y])
          (ifBound_K X I hs hf (wpAny_mono h (fun r s' hr => by
            obtain ⟨b, rfl, hq⟩ := hr
            have hq2 : (.bool (!b) : Value) ≠ .notImplemented ∧ Q (.bool (!b)) s' := ⟨(fun z => nomatch z), hq⟩
            repeat (first | exact hq2 | exact wpAny_pure hq2 | exact wpAny_truthy_bool hq2 | (refine wpAny_bind (m := truthy (.bool _)) (wpAny_truthy_bool ?_)) | wp_step)) fun _ _ e => e)))
      | wp_step)
  have c : wpAny (model prog w) A (call (.builtin "object.__ne__") [.ref x, y]) (fun v s' => v ≠ .notImplemented ∧ Q v s') E s :=
    wpAny_call (codeAny_call_builtin ne_slot.plain F.cmpEntry_ne (@check_slot (model prog w) _ _ s "object.__ne__" "object" "__ne__" (.ref x) [y] [] _ F.cmpKind_ne F.cmpSplit_ne sub (F.cmpArgs_ne _ _) ent))
  refine wpAny_bind (ifBound_B X I hn ne_slot.bind (wpAny_mono c (fun v s' hv => ?_) fun _ _ e => e))
  obtain ⟨h1, h2⟩ := hv
  cases v <;> first | exact absurd rfl h1 | exact wpAny_pure ⟨_, rfl, h2⟩
end
/-- x != y -/
def rNeI (C : Addr) (sp : Sp) : R2 := fun x y H Q => ∃ (a dx : Addr) (fs : List (Str × V)) (b dy : Addr) (gs : List (Str × V)), x = .ref a ∧ y = .ref b ∧ H a = some (.ins C dx fs) ∧ H b = some (.ins C dy gs) ∧
  sp [.ref a, .ref b] H (fun v H' => ∃ r, v = .bl r ∧ Q (.bl (!r)) H') E0
theorem op_neI {X : Cx} {C f : Addr} {n : Nat} {fd : FuncData} {ps : List Str} {sp : Sp} (F : FnOk X.prog X.w X.K X.mg X.base CX0 n f fd ps sp) (hn : PySem.W.findIn X.K (.ref C) "__ne__" = some (some (.builtin "object.__ne__")))
    (hs : PySem.W.findIn X.K (.ref C) "__eq__" = some (some (.ref f))) (hf : PySem.W.isFn X.K (.ref f) = true) (hm : PySem.W.mroIn X.K C (.type "object") = some true) (hb : Binds X.K fd ps []) (hr : Room (n + 1) X.A) :
    OpR X (compareOp .NotEq) (rNeI C sp) := by
  intro pins s σ H x y v u Q I rx ry h
  obtain ⟨a, dx, fs, b, dy, gs, rfl, rfl, ha, hb', hsp⟩ := h
  cases rx
  cases ry
  show wpAny (model X.prog X.w) X.A (richCompare .NotEq (.ref a) (.ref b)) (EP X pins σ Q) X.xe s
  obtain ⟨mA, J, _⟩ := ins_get I.hok ha
  obtain ⟨od, J, _⟩ := J.look
  obtain ⟨mB, J', _⟩ := ins_get I.hok hb'
  obtain ⟨od', J', _⟩ := J'.look
  obtain ⟨m, hF⟩ := I.fr
  have XK := I.ok.mod.kin.keeps hF.keep
  have hl := F.len _ _ _ _ hsp
  have r2 : Vals [V.ref a, V.ref b] [Value.ref a, Value.ref b] := .cons rfl (.cons rfl .nil)
  have e0 : Env0 X.prog X.w X.K X.mg X.base X.A.in1 X.stack s H := by
    have e := I.env0
    exact ⟨e.frames, e.mod, e.bs, e.bsz, e.funs, e.frf, e.hok, e.bare⟩
  have one : wpAny (model X.prog X.w) X.A (tryCompare (.ref a) "__ne__" (.ref b)) (fun r s' => ∃ v, r = some v ∧ EP X pins σ Q v s') X.xe s := by
    refine tryNe_K (Q := EP X pins σ Q) XK J hn hs hf hm hr.in1.units0 ?_
    refine wpAny_call (codeAny_mono (F.run X.A.in1 X.stack s H ⟨[.ref a, .ref b], []⟩ [.ref a, .ref b] [.ref a, .ref b] _ E0 hr.in1 e0 (by
      have := hb s [.ref a, .ref b] I.kIn (by simpa using hl)
      simpa using this) r2 hsp) fun r s' hq => ?_)
    cases r with
    | error e => exact hq.elim
    | ok fl =>
      cases fl with
      | ret w =>
        obtain ⟨z, H', I', rz, r, ez, q⟩ := I.after hq
        subst ez
        cases rz
        exact ⟨r, rfl, .bl (!r), H', I', rfl, q⟩
      | next => exact False.elim hq
      | brk => exact False.elim hq
      | cont => exact False.elim hq
  unfold richCompare
  simp only [oneThing_ref]
  refine wpAny_holding (wpAny_bind (wpAny_cRoomFor hr.units0 ?_))
  refine wpAny_bind (J.type.here (wpAny_bind (J'.type.here ?_)))
  rw [show (Value.ref C != Value.ref C) = false from by simp]
  simp only [Bool.false_eq_true, if_false]
  refine wpAny_bind (wpAny_pure ?_)
  simp only [Bool.false_eq_true, if_false]
  refine wpAny_bind (wpAny_mono one (fun r s' z => ?_) fun _ _ e => e)
  obtain ⟨v, rfl, hq⟩ := z
  exact wpAny_pure hq
end EX2
set_option Elab.async false
set_option linter.all false
set_option maxRecDepth 100000
set_option maxHeartbeats 4000000
/-! x[i] and y in x, x an instance of a class with its own -/
namespace EX2
open PySem PySem.Spec PyProof.Rows L2
section
variable {X : Cx} {CX : CXT} {k : Nat} {f C : Addr} {fd : FuncData} {ps : List Str} {sp : Sp} {E : XK}
theorem run_fn1 {pins : List (Addr × Obj)} {σ : L2.St} {H : Hp} {s : Shared} {Q : VK} {us : List Value} {vs : List V} (F : FnOk X.prog X.w X.K X.mg X.base CX k f fd ps sp) (hr : Room (k + 1) X.A) (hb : Binds X.K fd ps []) (hx : Passes CX X E)
    (I : Inv X pins σ H s) (r : Vals vs us) (h : sp vs H Q E) : wpAny (model X.prog X.w) X.A.in1 (call (.ref f) us) (EP X pins σ Q) X.xe s := by
  have hl : us.length = ps.length := by rw [← r.length]; exact F.len _ _ _ _ h
  refine wpAny_call (codeAny_mono (F.run X.A.in1 X.stack s H ⟨us, []⟩ us vs Q E hr.in1 I.env0.in1 (by
    have := hb s us I.kIn (by simpa using hl)
    simpa using this) r h) fun r s' hq => ?_)
  cases r with
  | error e => exact hx pins σ H s e s' I hq
  | ok fl =>
    cases fl with
    | ret u => exact I.after hq
    | next => exact False.elim hq
    | brk => exact False.elim hq
    | cont => exact False.elim hq
/-- x[i] -/
def rItemI (C : Addr) (sp : Sp) (E : XK) : V → V → Hp → VK → Prop := fun x y H Q => ∃ (a dx : Addr) (fs : List (Str × V)), x = .ref a ∧ H a = some (.ins C dx fs) ∧ sp [x, y] H Q E
theorem pe_itemI {a b : Expr} {pos : Pos} {ta tb : TE} (ha : PE X a ta) (hb : PE X b tb) (F : FnOk X.prog X.w X.K X.mg X.base CX k f fd ps sp) (hs : PySem.W.findIn X.K (.ref C) "__getitem__" = some (some (.ref f))) (hf : PySem.W.fnIn X.K f = true) (hfn : PySem.W.isFn X.K (.ref f) = true)
    (hB : Binds X.K fd ps []) (hr : Room (k + 1) X.A) (hx : Passes CX X E)
    (hsl : ∀ x i, subscripted b true (.ref x) i = runValue (.builtin "lifetime.subscript" ⟨[.ref x, i], []⟩) := by intro _ _; with_unfolding_all rfl) :
    PE X (.Subscript a b pos) (tOp (rItemI C sp E) ta tb) := by
  refine ⟨fun pins s σ H Q I h => ?_⟩
  refine Subscript_ (binT ha hb I h fun v u s2 x y H2 I2 rx ry q => ?_)
  obtain ⟨p, dx, fs, rfl, hp, q⟩ := q
  cases (show v = Value.ref p from rx)
  obtain ⟨mA, J, _⟩ := ins_get I2.hok hp
  obtain ⟨od, J, _⟩ := J.look
  obtain ⟨m, hF⟩ := I2.fr
  exact PySem.W.sub_K hF I2.ok.mod.kin J hs hf hfn (run_fn1 (vs := [.ref p, y]) F hr hB hx I2 (.cons rfl (.cons ry .nil)) q) (hsl _ _)
/-- y in x -/
def rInI (C : Addr) (sp : Sp) (E : XK) : R2 := fun y x H Q => ∃ (a dx : Addr) (fs : List (Str × V)), x = .ref a ∧ H a = some (.ins C dx fs) ∧ sp [x, y] H (fun v H' => ∃ b, v = .bl b ∧ Q (.bl b) H') E
theorem op_inI (F : FnOk X.prog X.w X.K X.mg X.base CX k f fd ps sp) (hs : PySem.W.findIn X.K (.ref C) "__contains__" = some (some (.ref f))) (hfn : PySem.W.isFn X.K (.ref f) = true) (hB : Binds X.K fd ps []) (hr : Room k X.A) (hx : Passes CX X E) :
    OpR X (compareOp .In) (rInI C sp E) := by
  intro pins s σ H y x u v Q I ry rx q
  obtain ⟨p, dx, fs, rfl, hp, q⟩ := q
  cases (show v = Value.ref p from rx)
  obtain ⟨mA, J, _⟩ := ins_get I.hok hp
  obtain ⟨od, J, _⟩ := J.look
  obtain ⟨m, hF⟩ := I.fr
  have XK := I.ok.mod.kin.keeps hF.keep
  have hc := run_fn (ds := []) (dvs := []) (us := [.ref p, u]) (vs := [.ref p, y]) F hr (by simpa using hB) .nil hx I (.cons rfl (.cons ry .nil)) q
  unfold compareOp
  refine wpAny_bind ?_
  unfold contains
  refine wpAny_holding ?_
  rw [show stdlibNamesSay? (.ref p) u = none from rfl]
  dsimp only
  refine wpAny_bind (wpAny_bind (J.type.here ((PySem.W.looks_findIn XK hs).here ?_)))
  simp only [beq_iff_eq, Option.some.injEq, reduceCtorEq, if_false]
  refine wpAny_bind ?_
  unfold callSpecialUnlessNone?
  refine wpAny_bind (wpAny_bind (J.type.here ((PySem.W.looks_findIn XK hs).here ?_)))
  dsimp only
  refine wpAny_holding (wpAny_bind ((PySem.W.bind_fn XK _ (beq_iff_eq.mp hfn)).here ?_))
  rw [if_neg (by simp)]
  refine wpAny_bind (wpAny_mono hc (fun v s' z => ?_) fun _ _ e => e)
  obtain ⟨x, H', I', rz, b, rfl, q⟩ := z
  cases rz
  exact wpAny_pure (wpAny_truthy_bool (wpAny_pure ⟨.bl b, H', I', rfl, q⟩))
end
end EX2
set_option Elab.async false
set_option linter.all false
set_option maxRecDepth 100000
set_option maxHeartbeats 2000000
/-! sets of texts: made, grown -/
namespace TX
open PySem PySem.Spec PyProof.Rows L2
def keyS (e : Int × Value) : Str := match e.2 with | .str k _ => k | _ => Str.empty
def GoodS (w : World) (e : Int × Value) : Prop := ∃ k tk, e.2 = Value.str k tk ∧ e.1 = hashStr w k
/-- the set of bools at a: S its members, n their number; its table rises and can be walked -/
def SetS (w : World) (h : Heap) (a : Addr) (S : Str → Bool) (n : Nat) : Prop :=
  ∃ o es ep t, h.get? a = some o ∧ o.ExactSet ∧ o.data = .set es ep t ∧ (∀ e ∈ es.toList, GoodS w e) ∧ (es.toList.map keyS).Nodup ∧ (∀ k, S k = true ↔ k ∈ es.toList.map keyS) ∧
    es.size < scanBound ∧ t.fits es.size = true ∧ es.size = n ∧ Ris t.place.toList ∧ (w.params.followText "set-order" = true ∨ t.led = true)

section
variable {P : Program} {w : World} {h h' : Heap} {a : Addr} {S : Str → Bool} {n : Nat}

theorem SetS.at (R : SetS w h a S n) (k : ∀ o, h.get? a = some o → h'.get? a = some o) : SetS w h' a S n := by
  obtain ⟨o, es, ep, t, ho, r⟩ := R
  exact ⟨o, es, ep, t, k o ho, r⟩
theorem SetS.lt (R : SetS w h a S n) : a < h.objs.size := by
  obtain ⟨o, es, ep, t, ho, r⟩ := R
  exact Heap.lt_size ho
theorem SetS.congr {S' : Str → Bool} (R : SetS w h a S n) (e : ∀ k, S' k = S k) : SetS w h a S' n := by
  have q : S' = S := funext e
  rw [q]; exact R
theorem goodS_elems {l : List (Int × Value)} (g : ∀ e ∈ l, GoodS w e) : ElemsOf (strKind P w) l := fun e he => by
  obtain ⟨k, tk, h1, h2⟩ := g e he
  exact ⟨⟨k, by rw [h1]; exact strKind_is P w k tk, h2⟩, by rw [h1] <;> rfl⟩
theorem goodS_is {e : Int × Value} (g : GoodS w e) (k : Str) : (strKind P w).is k e.2 = true ↔ keyS e = k := by
  obtain ⟨k0, tk, h1, _⟩ := g
  unfold keyS
  rw [h1]
  exact ⟨fun h => ((strKind P w).inj _ _ _ (strKind_is P w k0 tk) h), fun h => by subst h; exact strKind_is P w k0 tk⟩
theorem goodS_mem {l : List (Int × Value)} (g : ∀ e ∈ l, GoodS w e) (k : Str) : k ∈ l.map keyS ↔ ∃ e ∈ l, (strKind P w).is k e.2 = true := by
  rw [List.mem_map]
  constructor
  · rintro ⟨e, he, q⟩
    exact ⟨e, he, (goodS_is (g e he) k).2 q⟩
  · rintro ⟨e, he, q⟩
    exact ⟨e, he, (goodS_is (g e he) k).1 q⟩
theorem SetS.setOf (R : SetS w h a S n) : h.SetOf (strKind P w) a S n := by
  obtain ⟨o, es, ep, t, ho, hx, hd, g, nd, hm, hb, hf, hn, _⟩ := R
  exact ⟨o, es, ep, t, ho, hx, hd, goodS_elems g, fun k => (hm k).trans (goodS_mem g k), hb, hf, hn⟩
end

section
variable {P : Program} {w : World} {A : Around} {E : Value → Shared → Prop} {s : Shared} {a : Addr} {S : Str → Bool} {n : Nat}

/-! ### add -/
theorem storeS_at {h : Heap} {a : Addr} {o : Obj} {es es' : Array (Int × Value)} {ep : Nat} {t t' : SetTable} (ho : h.get? a = some o) (hd : o.data = .set es ep t) :
    (h.update a (Obj.putSet es' t')).get? a = some { o with data := .set es' (ep + 1) t' } := by
  have q := Heap.get?_update_self (Obj.putSet es' t') ho (by rw [putSet_of es' t' hd]; rfl)
  rw [putSet_of es' t' hd] at q
  exact q

theorem setS_add_tail {g : Bool → Sem Unit} (hg : ∀ (b : Bool) (s₁ : Shared) (Q' : Unit → Shared → Prop), Q' () s₁ → wpAny (model P w) A (g b) Q' E s₁)
    {o : Obj} {es : Array (Int × Value)} {ep : Nat} {t : SetTable} (ho : s.heap.get? a = some o) (hex : o.ExactSet) (hd : o.data = .set es ep t)
    {es1 : Array (Int × Value)} {t2 : SetTable} {S' : Str → Bool} (g1 : ∀ e ∈ es1.toList, GoodS w e) (nd1 : (es1.toList.map keyS).Nodup) (m1 : ∀ k, S' k = true ↔ k ∈ es1.toList.map keyS)
    (hb1 : es1.size < scanBound) (hf2 : t2.fits es1.size = true) (hr : Ris t2.place.toList) (hl : w.params.followText "set-order" = true ∨ t2.led = true) {wasDummy : Bool} {R : Option Bool → Shared → Prop}
    (hR : ∀ h', Heap.SameBut a s.heap h' → SetS w h' a S' es1.size → R (some true) { s with heap := h' }) :
    wpAny (model P w) A (do
        storeSet a es1 t2
        if (!wasDummy && t2.tooFull) = true then do
            g (relayAll t2 es1 (SetTable.grown es1.size)).2.2
            storeSet a (relayAll t2 es1 (SetTable.grown es1.size)).1 (relayAll t2 es1 (SetTable.grown es1.size)).2.1
            pure (some true)
          else pure (some true)) R E s := by
  refine wpAny_bind (wpAny_storeSet_of ho hd ?_ (fits_of_scanBound hb1))
  have ho1 := storeS_at (es' := es1) (t' := t2) ho hd
  have sb1 := Heap.SameBut.update s.heap a (Obj.putSet es1 t2)
  split
  · have pm := relayAll_perm t2 es1 (SetTable.grown es1.size)
    have hf3 := relayAll_fits t2 es1 (SetTable.grown es1.size)
    have hr3 := relayAll_ris t2 es1 (SetTable.grown es1.size)
    have hl3 := relayAll_led t2 es1 (SetTable.grown es1.size)
    generalize relayAll t2 es1 (SetTable.grown es1.size) = Z at pm hf3 hr3 hl3 ⊢
    obtain ⟨es2, t3, gave⟩ := Z
    dsimp only at pm hf3 hr3 hl3 ⊢
    have hsz : es2.size = es1.size := by rw [← Array.length_toList, pm.length_eq, Array.length_toList]
    have hb2 : es2.size < scanBound := by rw [hsz]; exact hb1
    refine wpAny_bind (hg _ _ _ ?_)
    refine wpAny_bind (wpAny_storeSet_of ho1 rfl ?_ (fits_of_scanBound hb2))
    have ho2 := storeS_at (es' := es2) (t' := t3) ho1 rfl
    refine wpAny_pure (hR _ (sb1.trans (Heap.SameBut.update _ a _)) ?_)
    exact ⟨_, es2, _, t3, ho2, hex, rfl, fun e he => g1 e (pm.mem_iff.mp he), (pm.map keyS).nodup_iff.mpr nd1, fun k => (m1 k).trans (pm.map keyS).mem_iff.symm, hb2, hf3, hsz, hr3,
      hl.imp id fun z => by rw [hl3]; exact z⟩
  · exact wpAny_pure (hR _ sb1 ⟨_, es1, _, t2, ho1, hex, rfl, g1, nd1, m1, hb1, hf2, rfl, hr, hl⟩)

theorem setS_add_hashed {k : Str} {tk : Tok} {Q : Bool → Shared → Prop} (R : SetS w s.heap a S n) (room : n + 1 < scanBound)
    (hQ : ∀ h', Heap.SameBut a s.heap h' → SetS w h' a (fun j => S j || decide (j = k)) (if S k = true then n else n + 1) → Q (!S k) { s with heap := h' }) :
    wpAny (model P w) A (setAddHashed a (.str k tk) ((strKind P w).hash k)) Q E s := by
  obtain ⟨o, es, ep, t, ho, hex, hd, g, nd, hm, hb, hf, hn, hr, hl⟩ := R
  have hkey : (strKind P w).is k (.str k tk) = true := strKind_is P w k tk
  have hsc : (Value.str k tk).scannable = true := rfl
  have hel : ElemsOf (strKind P w) es.toList := goodS_elems g
  unfold setAddHashed setAddHashedIn
  refine wpAny_holding (wpAny_bind (wpAny_setState_of ho hd hf ?_))
  dsimp only
  rw [byScan_of hsc hb hel]
  simp only [↓reduceIte]
  unfold setAddByScan
  refine wpAny_bind ?_
  refine wpAny_bind (wpAny_rule ?_)
  refine wpAny_bind (wpAny_setScan_of hkey ho hd hf hel ?_)
  cases hfi : List.findIdx? (fun e => (strKind P w).is k e.2) es.toList with
  | some j =>
    dsimp only
    obtain ⟨hj, pj, _⟩ := List.findIdx?_eq_some_iff_getElem.mp hfi
    have hSk : S k = true := (hm k).2 ((goodS_mem (P := P) (w := w) g k).2 ⟨es.toList[j], List.getElem_mem hj, pj⟩)
    refine wpAny_pure (wpAny_pure ?_)
    have q := hQ s.heap (Heap.SameBut.refl a s.heap) ⟨o, es, ep, t, ho, hex, hd, g, nd, fun i => by
      rw [Bool.or_eq_true, decide_eq_true_eq, ← hm i]
      exact ⟨fun z => z.elim id (fun e => e ▸ hSk), .inl⟩, hb, hf, by rw [if_pos hSk]; exact hn, hr, hl⟩
    rw [hSk] at q
    exact q
  | none =>
    dsimp only
    have hnk : k ∉ es.toList.map keyS := fun z => by
      obtain ⟨e, he, q⟩ := (goodS_mem (P := P) (w := w) g k).1 z
      have c := List.findIdx?_eq_none_iff.mp hfi e he
      rw [q] at c
      cases c
    have hSk : S k = false := by
      cases q : S k with
      | false => rfl
      | true => exact absurd ((hm k).1 q) hnk
    have hgw : ∀ (b : Bool) {s₁ : Shared} {Q' : Unit → Shared → Prop}, Q' () s₁ → wpAny (model P w) A (match b with | true => rule "set.scan.the-table-gave-way" | false => pure ()) Q' E s₁ :=
      fun b s₁ Q' q => by cases b <;> first | exact wpAny_pure q | exact wpAny_rule q
    have pm := layNew_perm t es ((strKind P w).hash k) (.str k tk)
    have hf1 := layNew_fits t es ((strKind P w).hash k) (.str k tk)
    have hr1 := layNew_ris t es ((strKind P w).hash k) (.str k tk) hr
    have hl1 := layNew_led t es ((strKind P w).hash k) (.str k tk)
    generalize layNew t es ((strKind P w).hash k) (.str k tk) = Z at pm hf1 hr1 hl1 ⊢
    obtain ⟨es1, t1, wasDummy, gave⟩ := Z
    dsimp only at pm hf1 hr1 hl1 ⊢
    rw [Array.toList_push] at pm
    have pc : es1.toList.Perm (((strKind P w).hash k, Value.str k tk) :: es.toList) := pm.trans (List.perm_append_singleton _ _)
    have pk : (es1.toList.map keyS).Perm (k :: es.toList.map keyS) := pc.map keyS
    have g1 : ∀ e ∈ es1.toList, GoodS w e := fun e he => by
      rcases List.mem_cons.mp (pc.mem_iff.mp he) with z | z
      · rw [z]; exact ⟨k, tk, rfl, rfl⟩
      · exact g e z
    have nd1 : (es1.toList.map keyS).Nodup := pk.nodup_iff.mpr (List.nodup_cons.mpr ⟨hnk, nd⟩)
    have m1 : ∀ i, (S i || decide (i = k)) = true ↔ i ∈ es1.toList.map keyS := fun i => by
      rw [Bool.or_eq_true, decide_eq_true_eq, hm i, pk.mem_iff, List.mem_cons]
      exact Or.comm
    have hsz : es1.size = n + 1 := by rw [← Array.length_toList, pc.length_eq, List.length_cons, Array.length_toList, hn]
    have hb1 : es1.size < scanBound := by rw [hsz]; exact room
    have hled : w.params.followText "set-order" = true ∨ t1.led = true := hl.imp id fun z => by rw [hl1]; exact z
    have fin : ∀ h', Heap.SameBut a s.heap h' → SetS w h' a (fun j => S j || decide (j = k)) es1.size → Q true { s with heap := h' } := fun h' sb r => by
      have q := hQ h' sb
      rw [hSk] at q
      rw [hsz] at r
      exact q r
    refine wpAny_bind (hgw _ ?_)
    split
    · refine wpAny_bind ?_
      rw [hashByValue_scannable 8 hsc]
      refine wpAny_pure ?_
      refine setS_add_tail ?_ ho hex hd g1 nd1 m1 hb1 ?_ ?_ ?_ ?_
      · intro b s₁ Q' q; cases b <;> first | exact wpAny_pure q | exact wpAny_rule q
      · first | (split <;> first | exact hf1 | exact SetTable.fits_plain_off hf1) | exact hf1
      · first | (split <;> exact hr1) | exact hr1
      · first | (split <;> exact hled) | exact hled
      · intro h' sb r; dsimp only; exact wpAny_pure (fin h' sb r)
    · refine wpAny_bind (wpAny_pure ?_)
      simp only [↓reduceIte]
      refine setS_add_tail ?_ ho hex hd g1 nd1 m1 hb1 hf1 hr1 hled ?_
      · intro b s₁ Q' q; cases b <;> first | exact wpAny_pure q | exact wpAny_rule q
      · intro h' sb r; dsimp only; exact wpAny_pure (fin h' sb r)

/-- found.add(k) -/
theorem setS_add {k : Str} {tk : Tok} {Q : Value → Shared → Prop} (R : SetS w s.heap a S n) (room : n + 1 < scanBound)
    (hQ : ∀ h', Heap.SameBut a s.heap h' → SetS w h' a (fun j => S j || decide (j = k)) (if S k = true then n else n + 1) → Q .none { s with heap := h', toks := s.toks + 1 }) :
    wpAny (model P w) A (call (.builtin "set.add") [.ref a, .str k tk]) Q E s := by
  have hS : s.heap.SetOf (strKind P w) a S n := R.setOf
  refine wpAny_call_entry F.slot_set_add hS.typeIs F.entry_set_add ?_ (F.args_set_add_2 _ _)
  unfold Builtin.«set.add» Builtin.Frozenset.oneOther
  simp only [List.isEmpty_nil, bind_assoc]
  unfold Builtin.Frozenset.addrOf setAdd
  refine wpAny_bind (wpAny_pure ?_)
  try dsimp only
  refine wpAny_bind (wpAny_pure ?_)
  try dsimp only
  refine wpAny_bind ?_
  refine wpAny_holding ?_
  refine wpAny_bind ((strKind P w).pyHash (strKind_is P w k tk) ?_)
  refine setS_add_hashed (s := { s with toks := s.toks + 1 }) R room fun h' sb r => ?_
  show wpAny _ _ (ret Value.none) _ _ _
  exact wpAny_pure ⟨_, rfl, hQ h' sb r⟩

end
section
variable {P : Program} {w : World} {A : Around} {E : Value → Shared → Prop} {s : Shared}
end
end TX
set_option Elab.async false
set_option linter.all false
set_option maxRecDepth 100000
set_option maxHeartbeats 2000000
/-! the order of texts; set(list of texts), set(tuple of texts) -/
namespace TX
open PySem PySem.Spec PyProof.Rows L2
/-! ### the order -/
def ltS (a b : Str) : Bool := decide (a.cps.toList < b.cps.toList)
theorem ltS_irr (a : Str) : ltS a a = false := decide_eq_false (List.lt_irrefl _)
theorem ltS_trans {a b c : Str} (h : ltS a b = true) (g : ltS b c = true) : ltS a c = true := decide_eq_true (List.lt_trans (of_decide_eq_true h) (of_decide_eq_true g))
theorem str_ext {a b : Str} (h : a.cps.toList = b.cps.toList) : a = b := by
  cases a; cases b
  simp only [Str.mk.injEq]
  exact Array.toList_inj.mp h
theorem ltS_tri {a b : Str} (h : ltS a b = false) (n : a ≠ b) : ltS b a = true := by
  refine decide_eq_true ?_
  have h1 : ¬ a.cps.toList < b.cps.toList := of_decide_eq_false h
  have h2 : b.cps.toList ≤ a.cps.toList := List.not_lt.mp h1
  rcases List.le_iff_lt_or_eq.mp h2 with h3 | h3
  · exact h3
  · exact absurd (str_ext h3.symm) n
def Srt (l : List Str) : Prop := l.Pairwise fun a b => ltS a b = true
def ins (x : Str) : List Str → List Str
  | [] => [x]
  | y :: r => if x = y then y :: r else if ltS x y = true then x :: y :: r else y :: ins x r
def canon : List Str → List Str
  | [] => []
  | x :: r => ins x (canon r)
theorem mem_ins {k x : Str} : ∀ {l : List Str}, k ∈ ins x l ↔ k = x ∨ k ∈ l
  | [] => by simp [ins]
  | y :: r => by
    unfold ins
    split
    · rename_i h; subst h; simp
    · split
      · simp
      · rw [List.mem_cons, mem_ins, List.mem_cons]
        exact ⟨fun h => h.elim (fun h => .inr (.inl h)) fun h => h.elim .inl fun h => .inr (.inr h), fun h => h.elim (fun h => .inr (.inl h)) fun h => h.elim .inl fun h => .inr (.inr h)⟩
theorem mem_canon {k : Str} : ∀ {l : List Str}, k ∈ canon l ↔ k ∈ l
  | [] => by simp [canon]
  | x :: r => by rw [canon, mem_ins, mem_canon, List.mem_cons]
theorem srt_ins {x : Str} : ∀ {l : List Str}, Srt l → Srt (ins x l)
  | [], _ => by simp [ins, Srt]
  | y :: r, h => by
    obtain ⟨h1, h2⟩ := List.pairwise_cons.mp h
    unfold ins
    split
    · exact h
    · rename_i ne
      split
      · rename_i lt
        refine List.pairwise_cons.mpr ⟨fun z hz => ?_, h⟩
        rcases List.mem_cons.mp hz with rfl | hz
        · exact lt
        · exact ltS_trans lt (h1 z hz)
      · rename_i nl
        refine List.pairwise_cons.mpr ⟨fun z hz => ?_, srt_ins h2⟩
        rcases mem_ins.mp hz with rfl | hz
        · exact ltS_tri (by simpa using nl) ne
        · exact h1 z hz
theorem srt_canon : ∀ (l : List Str), Srt (canon l)
  | [] => List.Pairwise.nil
  | x :: r => srt_ins (srt_canon r)
theorem Srt.nodup {l : List Str} (h : Srt l) : l.Nodup := h.imp fun {a b} g e => by subst e; rw [ltS_irr] at g; cases g
theorem Srt.ext : ∀ {a b : List Str}, Srt a → Srt b → (∀ k, k ∈ a ↔ k ∈ b) → a = b
  | [], [], _, _, _ => rfl
  | [], y :: s, _, _, h => absurd ((h y).mpr List.mem_cons_self) (by simp)
  | x :: r, [], _, _, h => absurd ((h x).mp List.mem_cons_self) (by simp)
  | x :: r, y :: s, ha, hb, h => by
    obtain ⟨a1, a2⟩ := List.pairwise_cons.mp ha
    obtain ⟨b1, b2⟩ := List.pairwise_cons.mp hb
    have e : x = y := by
      rcases List.mem_cons.mp ((h x).mp List.mem_cons_self) with e | e
      · exact e
      · rcases List.mem_cons.mp ((h y).mpr List.mem_cons_self) with g | g
        · exact g.symm
        · have := ltS_trans (a1 y g) (b1 x e)
          rw [ltS_irr] at this
          cases this
    subst e
    refine congrArg _ (Srt.ext a2 b2 fun k => ⟨fun hk => ?_, fun hk => ?_⟩)
    · rcases List.mem_cons.mp ((h k).mp (List.mem_cons_of_mem _ hk)) with e | e
      · subst e
        have := a1 k hk
        rw [ltS_irr] at this
        cases this
      · exact e
    · rcases List.mem_cons.mp ((h k).mpr (List.mem_cons_of_mem _ hk)) with e | e
      · subst e
        have := b1 k hk
        rw [ltS_irr] at this
        cases this
      · exact e
theorem canon_of {l : List Str} (h : Srt l) : canon l = l := (srt_canon l).ext h fun _ => mem_canon
theorem canon_congr {a b : List Str} (h : ∀ k, k ∈ a ↔ k ∈ b) : canon a = canon b := (srt_canon a).ext (srt_canon b) fun k => by rw [mem_canon, mem_canon, h]
theorem canon_len (l : List Str) : (canon l).length ≤ l.length := by
  induction l with
  | nil => exact Nat.le_refl _
  | cons x r ih =>
    have : ∀ l : List Str, (ins x l).length ≤ l.length + 1 := by
      intro l
      induction l with
      | nil => exact Nat.le_refl _
      | cons y s ih =>
        unfold ins
        split
        · simp
        · split
          · simp
          · simpa using ih
    have h2 := this (canon r)
    simp only [canon, List.length_cons]
    omega
theorem nodup_perm {a b : List Str} (ha : a.Nodup) (hb : b.Nodup) (h : ∀ k, k ∈ a ↔ k ∈ b) : a.Perm b := (List.perm_ext_iff_of_nodup ha hb).mpr h
theorem rising_srt : ∀ {p : Str} {l : List Str}, risingS p l = true → (p :: l).Nodup → Srt (p :: l)
  | p, [], _, _ => List.pairwise_singleton _ _
  | p, x :: r, h, nd => by
    have h0 : (!ltCps x.cps.toList p.cps.toList && risingS x r) = true := h
    rw [Bool.and_eq_true, ltCps_eq] at h0
    obtain ⟨n1, n2⟩ := List.nodup_cons.mp nd
    have ih := rising_srt h0.2 n2
    have lt : ltS p x = true := ltS_tri (by simpa [ltS] using h0.1) (fun e => n1 (by rw [e]; exact List.mem_cons_self))
    refine List.pairwise_cons.mpr ⟨fun z hz => ?_, ih⟩
    rcases List.mem_cons.mp hz with rfl | hz
    · exact lt
    · exact ltS_trans lt ((List.pairwise_cons.mp ih).1 z hz)
theorem sorted_srt : ∀ {l : List Str}, sortedS l = true → l.Nodup → Srt l
  | [], _, _ => List.Pairwise.nil
  | _ :: _, h, nd => rising_srt h nd
/-! ### the number of a set -/
theorem SetS.canon {w : World} {h : Heap} {a : Addr} {n : Nat} {xs ys : List Str} (R : SetS w h a (fun k => decide (k ∈ ys)) n) (e : ys = xs) : SetS w h a (fun k => decide (k ∈ xs)) (canon xs).length := by
  subst e
  obtain ⟨o, es, ep, t, ho, hx, hd, g, nd, hm, hb, hf, hn, r⟩ := R
  refine ⟨o, es, ep, t, ho, hx, hd, g, nd, hm, hb, hf, ?_, r⟩
  have p : (es.toList.map keyS).Perm (TX.canon ys) := nodup_perm nd (srt_canon _).nodup fun k => by
    rw [mem_canon, ← hm k, decide_eq_true_eq]
  rw [← p.length_eq, List.length_map, Array.length_toList]
theorem setS_at0 {w : World} {h : Heap} {a : Addr} {led : Bool} (e : led = (!w.params.followText "set-order")) (ho : h.get? a = some { cls := .type "set", dict := none, data := .set #[] 0 (.fresh 0 0 led) }) : SetS w h a (fun _ => false) 0 := by
  subst e
  exact ⟨_, #[], 0, _, ho, ⟨rfl, rfl, rfl⟩, rfl, (fun e he => by simp at he), (by simp), (fun k => by simp), (by decide), (by rfl), rfl, List.Pairwise.nil, by
    show _ ∨ (!w.params.followText "set-order") = true
    cases w.params.followText "set-order"
    · exact .inr rfl
    · exact .inl rfl⟩
section
variable {prog : Program} {w : World} {A : Around} {E : Value → Shared → Prop} {s : Shared}
theorem code_set_led1 (a : Value) {Q₁ : Value → Shared → Prop}
    (h : Q₁ (.ref s.heap.objs.size) { s with heap := s.heap.push { cls := .type "set", dict := none, data := .set #[] 0 (.fresh 0 0 (!w.params.followText "set-order")) } }) :
    codeAny (model prog w) A (.call (.builtin "set.__new__") ⟨[.type "set", a], []⟩) (wants Q₁ E) s := by
  refine codeAny_of_tree ?_
  show wpAny _ A.in1 (do checkBuiltinCall "set.__new__" ⟨[.type "set", a], []⟩; again (.builtin "set.__new__" ⟨[.type "set", a], []⟩)) _ _ s
  refine wpAny_bind (wpAny_of_eq (PySem.F.newCall_set_1 a) (wpAny_pure ⟨plainId_quiet PySem.F.plain_set_new _, codeAny_builtin PySem.F.entry_set_new ?_⟩))
  rw [Around.under_plainId PySem.F.plain_set_new _]
  unfold Builtin.«set.__new__» Builtin.Frozenset.newClass
  have hsub := PySem.sub_set_self
  obtain ⟨hp, g, d, tk, os⟩ := s
  dsimp only
  wp_walk
  refine wpAny_askSetting (wpAny_pure ?_)
  dsimp only
  simp only [newObj]
  refine wpAny_bind (wpAny_alloc (wpAny_pure ?_))
  exact wpAny_pure h
end
section
variable {prog : Program} {w : World} {A : Around} {R : Result → Shared → Prop} {I : Addr} {fp wr : List Addr} {G : Array GenState → Array GenState → Prop} {n : Nat} {P : Nat → Value → Prop} {St : Nat → Shared → Prop}
theorem loopTx (W : WalksS prog w A.in1 I fp wr G n P St) (S : Addr) (hSf : S ∉ fp) (xs : List Str) (hsz : xs.length = n) (hb : n + 1 < scanBound)
    (hval : ∀ i v, P i v → ∃ t, v = .str (xs.getD i Str.empty) t) :
    ∀ (k i : Nat) (s : Shared), n - i = k → i ≤ n → St i s →
      (∃ m, m ≤ i ∧ SetS w s.heap S (fun k' => decide (k' ∈ xs.take i)) m) →
      (∀ s', Moved (S :: wr) G s s' → (∃ m, m ≤ n ∧ SetS w s'.heap S (fun k' => decide (k' ∈ xs.take n)) m) → R (.ok (.ret .none)) s') →
      codeAny (model prog w) A (.builtin "set.update.loop" ⟨[.ref S, .ref I], []⟩) R s := by
  have hSw : S ∉ wr := fun h => hSf (W.sub _ h)
  have hsub : ∀ b ∈ wr, b ∈ S :: wr := fun b hb => List.mem_cons_of_mem _ hb
  intro k
  induction k with
  | zero =>
    intro i s hk hi hst hS hR
    have hin : i = n := by omega
    subst hin
    refine codeAny_builtin PyProof.Rows.F.entry_set_update_loop ?_
    rw [Around.under_plainId PyProof.Rows.F.plain_set_update_loop _]
    show wpAny _ A.in1 (pyNext (.ref I) >>= _) _ _ s
    refine wpAny_bind (W.done s _ _ hst fun s' hm => ?_)
    show wpAny _ A.in1 (ret Value.none) _ _ s'
    obtain ⟨m, hm1, hS⟩ := hS
    exact wpAny_pure (hR s' (hm.mono hsub) ⟨m, hm1, hS.at fun o e => hm.heap S _ hSw e⟩)
  | succ k ih =>
    intro i s hk hi hst hS hR
    have hlt : i < n := by omega
    refine codeAny_builtin PyProof.Rows.F.entry_set_update_loop ?_
    rw [Around.under_plainId PyProof.Rows.F.plain_set_update_loop _]
    show wpAny _ A.in1 (pyNext (.ref I) >>= _) _ _ s
    refine wpAny_bind (W.item i s _ _ hlt hst fun v s' hP hst' hm => ?_)
    obtain ⟨t, rfl⟩ := hval i v hP
    obtain ⟨m, hm1, hS⟩ := hS
    have hS' := hS.at (h' := s'.heap) fun o e => hm.heap S _ hSw e
    show wpAny _ A.in1 (holding [Value.str (xs.getD i Str.empty) t] (setAdd S (.str (xs.getD i Str.empty) t)) >>= _) _ _ s'
    refine wpAny_bind (wpAny_holding ?_)
    unfold setAdd
    refine wpAny_holding ?_
    refine wpAny_bind ((PySem.strKind prog w).pyHash (k := xs.getD i Str.empty) (strKind_is _ _ _ _) ?_)
    refine setS_add_hashed (P := prog) (s := { s' with toks := s'.toks + 1 }) hS' (by omega) fun h' hsb hS2 => ?_
    have hSi : ∃ m, m ≤ i + 1 ∧ SetS w h' S (fun k' => decide (k' ∈ xs.take (i + 1))) m := by
      refine ⟨_, ?_, hS2.congr fun k' => ?_⟩
      · split <;> omega
      · have hx : i < xs.length := by omega
        rw [List.take_succ, List.getElem?_eq_getElem hx]
        have : xs.getD i Str.empty = xs[i] := by simp [List.getD, List.getElem?_eq_getElem hx]
        rw [this]
        rw [Bool.eq_iff_iff]
        simp only [List.mem_append, Option.toList, List.mem_singleton, decide_eq_true_eq, Bool.or_eq_true]
    refine wpAny_pure ⟨plainId_quiet PyProof.Rows.F.plain_set_update_loop _, ih (i + 1) _ (by omega) hlt (W.frame _ s' _ _ hst' (Nat.le_succ _) fun b hb o e => ?_) hSi fun s'' hm'' hS'' => ?_⟩
    · rw [hsb.2 b (fun h : b = S => hSf (by rw [← h]; exact hb))]; exact e
    · refine hR s'' (Moved.trans W.gtrans ((hm.mono hsub).then_heap (Nat.le_succ _) fun b o hb e => ?_) hm'') hS''
      rw [hsb.2 b (fun h : b = S => hb (by rw [h]; exact List.mem_cons_self))]; exact e
end
end TX
set_option Elab.async false
set_option linter.all false
set_option maxRecDepth 100000
set_option maxHeartbeats 2000000
/-! a set's table laid anew, masks up to 255 -/
namespace TX
open PySem PySem.Spec PyProof.Rows L2
/-- the masks that come -/
def MaskQ (m : Nat) : Prop := m = 7 ∨ m = 15 ∨ m = 31 ∨ m = 63 ∨ m = 127 ∨ m = 255
def lcgS (m : Nat) : Nat → Nat → List Nat
  | 0, _ => []
  | n + 1, i => i :: lcgS m n ((i * 5 + 1) % (m + 1))
theorem lcgS_get (m : Nat) : ∀ (n b i : Nat), b < n → (lcgS m n i)[b]? = some (lcgI m i b)
  | 0, b, i, h => absurd h (Nat.not_lt_zero _)
  | n + 1, 0, i, h => rfl
  | n + 1, b + 1, i, h => by
    show (lcgS m n ((i * 5 + 1) % (m + 1)))[b]? = _
    rw [lcgS_get m n b _ (by omega)]
    have sh : ∀ b i, lcgI m ((i * 5 + 1) % (m + 1)) b = lcgI m i (b + 1) := by
      intro b i
      induction b with
      | zero => rfl
      | succ b ih => show (lcgI m ((i * 5 + 1) % (m + 1)) b * 5 + 1) % (m + 1) = (lcgI m i (b + 1) * 5 + 1) % (m + 1); rw [ih]
    rw [sh]
theorem lcgN_I (m : Nat) : ∀ b, lcgN m b = lcgI m 0 b
  | 0 => rfl
  | b + 1 => by show (lcgN m b * 5 + 1) % (m + 1) = (lcgI m 0 b * 5 + 1) % (m + 1); rw [lcgN_I m b]
theorem lcg_all {m : Nat} (hm : MaskQ m) {j : Nat} (hj : j ≤ m) : ∃ b, b ≤ m ∧ lcgN m b = j := by
  have key : ∀ n : Nat, ((List.range (n + 1)).all fun j => (lcgS n (n + 1) 0).contains j) = true → ∀ j, j ≤ n → ∃ b, b ≤ n ∧ lcgN n b = j := by
    intro n h j hj
    have h1 := List.all_eq_true.mp h j (List.mem_range.mpr (Nat.lt_succ_of_le hj))
    have h2 : j ∈ lcgS n (n + 1) 0 := by simpa using h1
    obtain ⟨b, hb⟩ := List.mem_iff_getElem?.mp h2
    have len : ∀ n i, (lcgS m n i).length = n := by
      intro n
      induction n with
      | zero => intro i; rfl
      | succ n ih => intro i; show (lcgS m n _).length + 1 = _; rw [ih]
    have len : ∀ k i, (lcgS n k i).length = k := by
      intro k
      induction k with
      | zero => intro i; rfl
      | succ k ih => intro i; show (lcgS n k _).length + 1 = _; rw [ih]
    have hb2 : b < n + 1 := by
      have := (List.getElem?_eq_some_iff.mp hb).1
      rw [len] at this
      exact this
    rw [lcgS_get n (n + 1) b 0 hb2] at hb
    exact ⟨b, by omega, by rw [lcgN_I]; exact Option.some.inj hb⟩
  rcases hm with e | e | e | e | e | e <;> subst e <;> exact key _ (by decide +kernel) j hj
theorem lcg_round {m : Nat} (hm : MaskQ m) : lcgN m (m + 1) = 0 := by
  rcases hm with e | e | e | e | e | e <;> subst e <;> decide +kernel

theorem lcgN_mod {m : Nat} (hm : MaskQ m) : ∀ k, lcgN m (m + 1 + k) = lcgN m k
  | 0 => lcg_round hm
  | k + 1 => by
    show (lcgN m (m + 1 + k) * 5 + 1) % (m + 1) = (lcgN m k * 5 + 1) % (m + 1)
    rw [lcgN_mod hm k]
/-- from anywhere each slot is met within a round -/
theorem lcgI_all {m : Nat} (hm : MaskQ m) {i j : Nat} (hi : i ≤ m) (hj : j ≤ m) : ∃ k, k ≤ m ∧ lcgI m i k = j := by
  obtain ⟨a, ha, ea⟩ := lcg_all hm hi
  obtain ⟨b, hb, eb⟩ := lcg_all hm hj
  rw [← ea]
  rcases Nat.lt_or_ge b a with c | c
  · refine ⟨b + (m + 1) - a, by omega, ?_⟩
    rw [lcgN_add]
    have e : a + (b + (m + 1) - a) = m + 1 + b := by omega
    rw [e, lcgN_mod hm, eb]
  · refine ⟨b - a, by omega, ?_⟩
    rw [lcgN_add]
    have e : a + (b - a) = b := by omega
    rw [e, eb]

/-- each slot begins a run early enough -/
theorem run_meets {m : Nat} (hm : MaskQ m) (h : Int) {j : Nat} (hj : j ≤ m) : ∃ n, n ≤ m + 12 ∧ runI m (SetTable.bits h) n = j := by
  obtain ⟨k, hk, e⟩ := lcgI_all hm (runI_le m (SetTable.bits h) 12) hj
  exact ⟨12 + k, by omega, by rw [runI_tail (bits_lt h)]; exact e⟩
theorem way_leQ {m : Nat} {h : Int} {k : Nat} : way m h k ≤ m := by
  have hi : SetTable.bits h % (m + 1) ≤ m := Nat.le_of_lt_succ (Nat.mod_lt _ (Nat.succ_pos _))
  have r := runEnd_bd hi
  have q := nth_in (m := m) k (runAt m (SetTable.bits h % (m + 1)) (SetTable.bits h)) (by
    show SetTable.bits h % (m + 1) + (SetTable.runEnd m (SetTable.bits h % (m + 1)) - SetTable.bits h % (m + 1)) ≤ m
    omega)
  show (nth m (runAt m (SetTable.bits h % (m + 1)) (SetTable.bits h)) k).j ≤ m
  omega
/-- a free slot is found, at the first free place of the way -/
theorem free_find {m : Nat} (hm : MaskQ m) (owner : Array (Option Nat)) (h : Int) {j : Nat} (hj : j ≤ m) (hf : oAt owner j = none) :
    ∃ K, SetTable.layClean.free m owner (SetTable.turns m) (SetTable.bits h % (m + 1)) (SetTable.bits h) = some (way m h K) ∧ oAt owner (way m h K) = none ∧ ∀ k, k < K → oAt owner (way m h k) ≠ none := by
  obtain ⟨n, hn, e⟩ := run_meets hm h hj
  have hw : way m h (off m (SetTable.bits h % (m + 1)) (SetTable.bits h) n) = j := by
    show (nth m (runAt m (SetTable.bits h % (m + 1)) (SetTable.bits h)) (off m (SetTable.bits h % (m + 1)) (SetTable.bits h) n)).j = j
    rw [nth_off, itL_run]
    exact e
  obtain ⟨K, k1, k2, k3⟩ := st_least (p := fun k => oAt owner (way m h k) = none) (off m (SetTable.bits h % (m + 1)) (SetTable.bits h) n) (by
    show oAt owner (way m h (off m (SetTable.bits h % (m + 1)) (SetTable.bits h) n)) = none
    rw [show way m h (off m (SetTable.bits h % (m + 1)) (SetTable.bits h) n) = j from hw]
    exact hf)
  refine ⟨K, ?_, k2, k3⟩
  refine free_spec m owner (SetTable.turns m) n _ _ K (by unfold SetTable.turns; omega) k1 (fun k hk => ?_) ?_
  · have q := k3 k hk
    cases z : oAt owner (nth m (runAt m (SetTable.bits h % (m + 1)) (SetTable.bits h)) k).j with
    | none => exact absurd z q
    | some _ => rfl
  · have q : oAt owner (nth m (runAt m (SetTable.bits h % (m + 1)) (SetTable.bits h)) K).j = none := k2
    rw [q] <;> rfl

theorem ownStep {m : Nat} (hm : MaskQ m) {done : List Int} {owner : Array (Option Nat)} (W : Own m done owner) (hl : done.length ≤ m) (h : Int) :
    ∃ j, SetTable.layClean.free m owner (SetTable.turns m) (SetTable.bits h % (m + 1)) (SetTable.bits h) = some j ∧ Own m (done ++ [h]) (owner.setIfInBounds j (some done.length)) := by
  obtain ⟨ps, hps, hin⟩ := W.ps
  obtain ⟨j0, h0, hn0⟩ := st_missing ps (m + 1) (by omega)
  have hj0 : oAt owner j0 = none := by
    cases z : oAt owner j0 with
    | none => rfl
    | some k => exact absurd (hin j0 (Nat.le_of_lt_succ h0) (by rw [z]; exact fun e => nomatch e)) hn0
  obtain ⟨K, e1, e2, e3⟩ := free_find hm owner h (Nat.le_of_lt_succ h0) hj0
  have hjm : way m h K ≤ m := way_leQ
  have hjs : way m h K < owner.size := by
    rw [W.sz]
    exact Nat.lt_succ_of_le hjm
  refine ⟨way m h K, e1, ?_⟩
  have hself := oAt_set_self (some done.length) hjs
  have mono : ∀ {i : Nat}, oAt owner i ≠ none → oAt (owner.setIfInBounds (way m h K) (some done.length)) i ≠ none := fun {i} hi => by
    by_cases c : i = way m h K
    · rw [c, hself]
      exact fun e => nomatch e
    · rw [oAt_set_ne _ c]
      exact hi
  refine ⟨by rw [Array.size_setIfInBounds]; exact W.sz, fun j k hj e => ?_, fun k hk => ?_, ⟨way m h K :: ps, by rw [List.length_cons, List.length_append, hps] <;> rfl, fun j hj e => ?_⟩⟩
  · by_cases c : j = way m h K
    · rw [c, hself] at e
      have ek : done.length = k := Option.some.inj e
      refine ⟨h, K, ?_, c.symm, fun k' hk' => mono (e3 k' hk')⟩
      rw [← ek, List.getElem?_append_right (Nat.le_refl _), Nat.sub_self] <;> rfl
    · rw [oAt_set_ne _ c] at e
      obtain ⟨h', K', a1, a2, a3⟩ := W.at_ j k hj e
      refine ⟨h', K', ?_, a2, fun k' hk' => mono (a3 k' hk')⟩
      rw [List.getElem?_append_left (List.getElem?_eq_some_iff.mp a1).1]
      exact a1
  · rw [List.length_append, List.length_singleton] at hk
    by_cases c : k < done.length
    · obtain ⟨j, hj, e⟩ := W.all k c
      refine ⟨j, hj, ?_⟩
      rw [oAt_set_ne _ (fun z => by rw [z, e2] at e; cases e)]
      exact e
    · have ek : k = done.length := by omega
      rw [ek]
      exact ⟨way m h K, hjm, hself⟩
  · by_cases c : j = way m h K
    · rw [c]
      exact List.mem_cons_self
    · rw [oAt_set_ne _ c] at e
      exact List.mem_cons_of_mem _ (hin j hj e)

theorem fold_ok {m : Nat} (hm : MaskQ m) : ∀ (rest done : List Int) (owner : Array (Option Nat)), Own m done owner → done.length + rest.length ≤ m →
    ∃ owner', rest.foldl (stepF m) (some (owner, done.length)) = some (owner', (done ++ rest).length) ∧ Own m (done ++ rest) owner'
  | [], done, owner, W, _ => ⟨owner, by rw [List.append_nil] <;> rfl, by rw [List.append_nil]; exact W⟩
  | h :: rest, done, owner, W, hl => by
    rw [List.length_cons] at hl
    obtain ⟨j, e, W'⟩ := ownStep hm W (by omega) h
    have hl' : (done ++ [h]).length = done.length + 1 := by rw [List.length_append] <;> rfl
    obtain ⟨owner', f, W2⟩ := fold_ok hm rest (done ++ [h]) _ W' (by rw [hl']; omega)
    have ea : done ++ [h] ++ rest = done ++ h :: rest := by rw [List.append_assoc] <;> rfl
    rw [ea, hl'] at f
    rw [ea] at W2
    refine ⟨owner', ?_, W2⟩
    rw [List.foldl_cons, stepF_some e]
    exact f
theorem layClean_ok {m : Nat} (hm : MaskQ m) {hs : Array Int} (hn : hs.size ≤ m) : ∃ owner, SetTable.layClean m hs = some owner ∧ Own m hs.toList owner := by
  obtain ⟨owner, f, W⟩ := fold_ok hm hs.toList [] _ (Own.init m) (by rw [Array.length_toList]; show 0 + hs.size ≤ m; omega)
  rw [List.nil_append] at W
  refine ⟨owner, ?_, W⟩
  rw [layClean_eq]
  have f' : hs.toList.foldl (stepF m) (some (Array.replicate (m + 1) none, 0)) = some (owner, ([] ++ hs.toList).length) := f
  rw [f'] <;> rfl

theorem relaid_ok (t : SetTable) {hs : Array Int} {wanted M : Nat} (hw : SetTable.sizeAbove wanted - 1 = M) (hM : MaskQ M) (hn : hs.size ≤ M) :
    ∃ t' order, t.relaid hs wanted = some (t', order) ∧ order.toList.Perm (List.range hs.size) ∧ Ris t'.place.toList ∧ t'.place.size = hs.size ∧ t'.mask = M ∧ t'.led = t.led ∧ t'.plain = t.plain ∧ t'.dummies = #[] := by
  obtain ⟨owner, e, W⟩ := layClean_ok hM hn
  have hr : t.relaid hs wanted = some (tabOf t M owner, ((liveOf M owner).map (·.2)).toArray) := by
    rw [relaid_eq, hw, e] <;> rfl
  have ris := ris_live (fun j => owner.getD j none) (List.range (M + 1)) (by
    unfold Ris
    first | exact List.pairwise_lt_range | exact List.pairwise_lt_range _)
  have r1 : Ris ((liveOf M owner).map (·.1)) := ris.1
  have r2 : ∀ x ∈ (liveOf M owner).map (·.1), x ∈ List.range (M + 1) := ris.2
  have nd : ((liveOf M owner).map (·.1)).Nodup := List.Pairwise.imp (fun h => Nat.ne_of_lt h) r1
  have hlen : (liveOf M owner).length = hs.size := by
    obtain ⟨ps, p1, p2⟩ := W.ps
    have a := nat_nodup_len ((liveOf M owner).map (·.1)) ps nd fun x hx => by
      obtain ⟨q, hq, eq1⟩ := List.mem_map.mp hx
      obtain ⟨y, k⟩ := q
      have ey : y = x := eq1
      subst ey
      obtain ⟨b1, b2⟩ := (mem_live W.sz).1 hq
      exact p2 y b1 (by rw [b2]; exact fun z => nomatch z)
    have b := nat_nodup_len (List.range hs.size) ((liveOf M owner).map (·.2)) List.nodup_range fun k hk => by
      obtain ⟨j, b1, b2⟩ := W.all k (by rw [Array.length_toList]; exact List.mem_range.mp hk)
      exact List.mem_map.mpr ⟨(j, k), (mem_live W.sz).2 ⟨b1, b2⟩, rfl⟩
    rw [List.length_map, p1] at a
    rw [List.length_map, List.length_range] at b
    have hz : hs.toList.length = hs.size := rfl
    omega
  refine ⟨tabOf t M owner, ((liveOf M owner).map (·.2)).toArray, hr, ?_, r1, ?_, rfl, rfl, rfl, rfl⟩
  · refine perm_range hs.size _ ?_ fun k hk => ?_
    · show ((liveOf M owner).map (·.2)).length = hs.size
      rw [List.length_map]
      exact hlen
    · obtain ⟨j, b1, b2⟩ := W.all k (by rw [Array.length_toList]; exact hk)
      exact List.mem_map.mpr ⟨(j, k), (mem_live W.sz).2 ⟨b1, b2⟩, rfl⟩
  · show ((liveOf M owner).map (·.1)).toArray.size = hs.size
    rw [List.size_toArray, List.length_map, hlen]
end TX
set_option Elab.async false
set_option linter.all false
set_option maxRecDepth 100000
set_option maxHeartbeats 2000000
/-! sets of texts: one put into another; the union -/
namespace TX
open PySem PySem.Spec PyProof.Rows L2
/-- a set of texts, its table in sight -/
def TabS (w : World) (h : Heap) (a : Addr) (es : Array (Int × Value)) (t : SetTable) : Prop :=
  ∃ o ep, h.get? a = some o ∧ o.ExactSet ∧ o.data = .set es ep t ∧ (∀ e ∈ es.toList, GoodS w e) ∧ (es.toList.map keyS).Nodup ∧ es.size < scanBound ∧ t.fits es.size = true ∧ Ris t.place.toList ∧
    (w.params.followText "set-order" = true ∨ t.led = true)
theorem SetS.tab {w : World} {h : Heap} {a : Addr} {S : Str → Bool} {n : Nat} (R : SetS w h a S n) : ∃ es t, TabS w h a es t ∧ (∀ k, S k = true ↔ k ∈ es.toList.map keyS) ∧ es.size = n := by
  obtain ⟨o, es, ep, t, ho, hx, hd, g, nd, hm, hb, hf, hn, hr, hl⟩ := R
  exact ⟨es, t, ⟨o, ep, ho, hx, hd, g, nd, hb, hf, hr, hl⟩, hm, hn⟩
theorem TabS.setS {w : World} {h : Heap} {a : Addr} {es : Array (Int × Value)} {t : SetTable} {S : Str → Bool} (R : TabS w h a es t) (hS : ∀ k, S k = true ↔ k ∈ es.toList.map keyS) : SetS w h a S es.size := by
  obtain ⟨o, ep, ho, hx, hd, g, nd, hb, hf, hr, hl⟩ := R
  exact ⟨o, es, ep, t, ho, hx, hd, g, nd, hS, hb, hf, rfl, hr, hl⟩
theorem TabS.at {w : World} {h h' : Heap} {a : Addr} {es : Array (Int × Value)} {t : SetTable} (R : TabS w h a es t) (k : ∀ o, h.get? a = some o → h'.get? a = some o) : TabS w h' a es t := by
  obtain ⟨o, ep, ho, r⟩ := R
  exact ⟨o, ep, k o ho, r⟩
def sizesOk : Bool := (List.range 256).all fun n => decide (SetTable.sizeAbove n ≤ 256) && (decide (n < SetTable.sizeAbove n) && [7, 15, 31, 63, 127, 255].contains (SetTable.sizeAbove n - 1))
theorem sizes_ok : sizesOk = true := by decide +kernel
theorem maskQ_of {m : Nat} (h : [7, 15, 31, 63, 127, 255].contains m = true) : MaskQ m := by
  simp only [List.contains_eq_mem, List.mem_cons, List.not_mem_nil, or_false, decide_eq_true_eq] at h
  exact h
theorem sizeAbove_ok {n : Nat} (h : n < 256) : SetTable.sizeAbove n ≤ 256 ∧ n < SetTable.sizeAbove n ∧ MaskQ (SetTable.sizeAbove n - 1) := by
  have := List.all_eq_true.mp sizes_ok n (List.mem_range.mpr h)
  simp only [Bool.and_eq_true, decide_eq_true_eq] at this
  exact ⟨this.1, this.2.1, maskQ_of this.2.2⟩
theorem fmap_range (es : Array (Int × Value)) : (List.range es.size).filterMap (fun i => es[i]?) = es.toList := by
  have key2 : ∀ n, n ≤ es.size → (List.range n).filterMap (fun i => es[i]?) = es.toList.take n := by
    intro n
    induction n with
    | zero => intro _; simp
    | succ n ih =>
      intro hn
      have hlt : n < es.toList.length := hn
      have e : es[n]? = some (es.toList[n]) := by rw [← Array.getElem?_toList]; exact List.getElem?_eq_getElem hlt
      rw [List.range_succ, List.filterMap_append, ih (Nat.le_of_lt hn), List.take_succ, List.getElem?_eq_getElem hlt]
      rw [List.filterMap_cons_some e] <;> rfl
  rw [key2 es.size (Nat.le_refl _)]
  exact List.take_length
theorem order_perm {es : Array (Int × Value)} {order : Array Nat} (hp : order.toList.Perm (List.range es.size)) : (order.filterMap (es[·]?)).toList.Perm es.toList := by
  rw [Array.toList_filterMap]
  have := hp.filterMap (fun i => es[i]?)
  rw [fmap_range] at this
  exact this
section
variable {P : Program} {w : World} {A : Around} {E : Value → Shared → Prop} {s : Shared} {a r o : Addr} {es er eo : Array (Int × Value)} {t tr to : SetTable}
theorem TabS.put {o' : Obj} {ep : Nat} {es' : Array (Int × Value)} {t' : SetTable} (ho : s.heap.get? a = some o') (hx : o'.ExactSet) (hd : o'.data = .set es ep t)
    (g : ∀ e ∈ es'.toList, GoodS w e) (nd : (es'.toList.map keyS).Nodup) (hb : es'.size < scanBound) (hf : t'.fits es'.size = true) (hr : Ris t'.place.toList) (hl : w.params.followText "set-order" = true ∨ t'.led = true) :
    TabS w (s.heap.update a (Obj.putSet es' t')) a es' t' := ⟨_, ep + 1, storeS_at ho hd, hx, rfl, g, nd, hb, hf, hr, hl⟩
theorem fits_of {t : SetTable} {n : Nat} (h1 : t.place.size = n) (h2 : t.dummies = #[]) (h3 : n ≤ t.mask) : t.fits n = true := by
  unfold SetTable.fits SetTable.fill
  rw [h2, Bool.and_eq_true, beq_iff_eq, decide_eq_true_eq]
  show t.place.size = n ∧ t.place.size + 0 ≤ t.mask
  omega
/-- the table laid anew -/
theorem relayS {wanted : Nat} {Q : Unit → Shared → Prop} (R : TabS w s.heap a es t) (hw : wanted < 256) (hn : es.size ≤ wanted)
    (hQ : ∀ h' es' t', Heap.SameBut a s.heap h' → TabS w h' a es' t' → es'.toList.Perm es.toList → MaskQ t'.mask → Q () { s with heap := h' }) : wpAny (model P w) A (setRelay a wanted) Q E s := by
  obtain ⟨o, ep, ho, hx, hd, g, nd, hb, hf, hr, hl⟩ := R
  obtain ⟨z1, z2, z3⟩ := sizeAbove_ok hw
  obtain ⟨t', order, e, hp, r1, r2, em, el, ep', ed⟩ := relaid_ok t (hs := es.map (·.1)) (wanted := wanted) rfl z3 (by rw [Array.size_map]; omega)
  rw [Array.size_map] at hp r2
  have pm := order_perm (es := es) hp
  have hs2 : (order.filterMap (es[·]?)).size = es.size := by
    have := pm.length_eq
    rw [Array.length_toList, Array.length_toList] at this
    exact this
  rw [setRelay_eq]
  refine wpAny_bind (wpAny_setState_of ho hd hf ?_)
  dsimp only
  refine wp_if_neg (by rw [sizeLine_eq]; omega) ?_
  try refine wpAny_bind (wpAny_pure ?_)
  rw [e]
  dsimp only
  refine wpAny_bind ?_
  refine wp_if_neg (by rw [hs2]; simp) ?_
  try refine wpAny_bind (wpAny_pure ?_)
  refine wpAny_pure ?_
  dsimp only
  refine wpAny_storeSet_of ho hd ?_ (by rw [hs2]; exact fits_of_scanBound hb)
  refine hQ _ _ t' (Heap.SameBut.update ..) (TabS.put ho hx hd (fun e he => g e (pm.mem_iff.mp he)) ((pm.map keyS).nodup_iff.mpr nd) (by rw [hs2]; exact hb) ?_ r1 (hl.imp id fun z => by rw [el]; exact z)) pm (by rw [em]; exact z3)
  rw [hs2]
  exact fits_of r2 ed (by rw [em]; omega)
theorem roomS {more : Nat} {Q : Unit → Shared → Prop} (R : TabS w s.heap a es t) (hw : (es.size + more) * 2 < 256)
    (hQ : ∀ h' es' t', Heap.SameBut a s.heap h' → TabS w h' a es' t' → es'.toList.Perm es.toList → (MaskQ t.mask → MaskQ t'.mask) → (t.roomFor more = none → t' = t ∧ es' = es) → ((t.roomFor more).isSome → es.size + more ≤ t'.mask) → Q () { s with heap := h' }) : wpAny (model P w) A (setRoomFor a more) Q E s := by
  obtain ⟨o, ep, ho, hx, hd, g, nd, hb, hf, hr, hl⟩ := id R
  have hp : t.place.size = es.size := by
    simp only [SetTable.fits, Bool.and_eq_true, beq_iff_eq] at hf
    exact hf.1
  unfold setRoomFor
  refine wpAny_bind (wpAny_setState_of ho hd hf ?_)
  dsimp only
  cases hc : t.roomFor more with
  | none => exact wpAny_pure (hQ s.heap es t (Heap.SameBut.refl a s.heap) R (List.Perm.refl _) id (fun _ => ⟨rfl, rfl⟩) (fun z => by rw [hc] at z; cases z))
  | some wanted =>
    have e : wanted = (es.size + more) * 2 := by
      unfold SetTable.roomFor at hc
      split at hc
      · rw [← Option.some.inj hc, hp]
      · cases hc
    subst e
    obtain ⟨z1, z2, z3⟩ := sizeAbove_ok hw
    obtain ⟨t', order, e, hp', r1, r2, em, el, ep', ed⟩ := relaid_ok t (hs := es.map (·.1)) (wanted := (es.size + more) * 2) rfl z3 (by rw [Array.size_map]; omega)
    rw [Array.size_map] at hp' r2
    have pm := order_perm (es := es) hp'
    have hs2 : (order.filterMap (es[·]?)).size = es.size := by
      have := pm.length_eq
      rw [Array.length_toList, Array.length_toList] at this
      exact this
    dsimp only
    rw [setRelay_eq]
    refine wpAny_bind (wpAny_setState_of ho hd hf ?_)
    dsimp only
    refine wp_if_neg (by rw [sizeLine_eq]; omega) ?_
    try refine wpAny_bind (wpAny_pure ?_)
    rw [e]
    dsimp only
    refine wpAny_bind ?_
    refine wp_if_neg (by rw [hs2]; simp) ?_
    try refine wpAny_bind (wpAny_pure ?_)
    refine wpAny_pure ?_
    dsimp only
    refine wpAny_storeSet_of ho hd ?_ (by rw [hs2]; exact fits_of_scanBound hb)
    refine hQ _ _ t' (Heap.SameBut.update ..) (TabS.put ho hx hd (fun e he => g e (pm.mem_iff.mp he)) ((pm.map keyS).nodup_iff.mpr nd) (by rw [hs2]; exact hb) ?_ r1 (hl.imp id fun z => by rw [el]; exact z)) pm (fun _ => by rw [em]; exact z3) (fun z => by rw [hc] at z; cases z) (fun _ => by rw [em]; omega)
    rw [hs2]
    exact fits_of r2 ed (by rw [em]; omega)
/-! ### the walk of a set into another -/
theorem quietS {l : List Addr} {Q : Bool → Shared → Prop} (hl : ∀ b ∈ l, ∃ es t, TabS w s.heap b es t) (h : Q true s) : wpAny (model P w) A (setsQuiet l) Q E s := by
  unfold setsQuiet
  refine wpAny_bind (wpAny_forIn_list _ (fun rest b s' => b.1 = none ∧ s' = s ∧ ∀ c ∈ rest, ∃ es t, TabS w s.heap c es t) _ ?_ ?_ l _ ⟨rfl, rfl, hl⟩)
  · rintro c rest b s' ⟨hb, rfl, hr⟩
    obtain ⟨es, t, o, ep, ho, hx, hd, g, nd, hb', hf, _⟩ := hr c List.mem_cons_self
    refine wpAny_bind (wpAny_setEntries_of ho hd hf ?_)
    refine wpAny_bind (MeetsSeq2.wpAny_forIn_array _ (fun rest b s2 => b.1 = none ∧ s2 = s' ∧ ∀ e ∈ rest, GoodS w e) _ ?_ ?_ es _ ⟨rfl, rfl, g⟩)
    · rintro e r2 b2 s2 ⟨hb2, rfl, hg⟩
      obtain ⟨k, tk, h1, _⟩ := hg e List.mem_cons_self
      obtain ⟨hh, x⟩ := e
      dsimp only at h1
      subst h1
      dsimp only
      first
        | exact wpAny_pure ⟨rfl, rfl, fun e he => hg e (List.mem_cons_of_mem _ he)⟩
        | exact wpAny_bind (wpAny_pure (wpAny_pure ⟨rfl, rfl, fun e he => hg e (List.mem_cons_of_mem _ he)⟩))
    · rintro b2 s2 ⟨hb2, rfl, _⟩
      dsimp only
      rw [hb2]
      exact wpAny_pure ⟨rfl, rfl, fun c hc => hr c (List.mem_cons_of_mem _ hc)⟩
  · rintro b s' ⟨hb, rfl, _⟩
    dsimp only
    rw [hb]
    exact wpAny_pure h
theorem walkS {Q : Array (Int × Value) → Shared → Prop} (R : TabS w s.heap a es t) (hc : w.params.followText "set-order" = true ∨ (t.led = true ∧ t.plain = true) ∨ es.size ≤ 1)
    (hQ : ∀ out : Array (Int × Value), out.toList.Perm es.toList → Q out s) : wpAny (model P w) A (setWalk a) Q E s := by
  obtain ⟨o, ep, ho, hx, hd, g, nd, hb, hf, hr, hl⟩ := R
  unfold setWalk
  refine wpAny_bind (wpAny_setState_of ho hd hf ?_)
  dsimp only
  refine wpAny_bind (wpAny_byText ?_)
  cases hbt : w.params.followText "set-order" with
  | true =>
    refine wp_if_pos rfl ?_
    exact wpAny_bind (wpAny_askSetting (wpAny_pure (hQ _ (pick_perm _ _))))
  | false =>
    refine wp_if_neg Bool.false_ne_true ?_
    try refine wpAny_bind (wpAny_pure ?_)
    have hc' : (t.led = true ∧ t.plain = true) ∨ es.size ≤ 1 := hc.resolve_left (by rw [hbt]; exact Bool.false_ne_true)
    have hdr : (!t.plain && decide (es.size > 1)) = false := by
      rcases hc' with ⟨_, e⟩ | e
      · rw [e]; rfl
      · rw [decide_eq_false (by omega), Bool.and_false]
    refine wp_if_neg (by show ¬ ((!t.plain && decide (es.size > 1)) = true); rw [hdr]; exact Bool.false_ne_true) ?_
    try refine wpAny_bind (wpAny_pure ?_)
    refine wpAny_bind (wpAny_of_eq (a := ()) ?_ ?_)
    · show (if (!t.led && decide (es.size > 1)) = true then unsupported "set:maker-not-led" else pure ()) = pure ()
      rw [if_neg]
      rcases hc' with ⟨e, _⟩ | e
      · rw [e]; simp
      · rw [decide_eq_false (by omega), Bool.and_false]; exact Bool.false_ne_true
    · exact wpAny_pure (hQ _ (List.Perm.refl _))
theorem walkUnseenS {Q : Array (Int × Value) → Shared → Prop} (R : TabS w s.heap r er tr) (T : TabS w s.heap o eo to) (ne : r ≠ o)
    (hQ : ∀ (out : Array (Int × Value)) h' tr', out.toList.Perm eo.toList → Heap.SameBut r s.heap h' → TabS w h' r er tr' → Q out { s with heap := h' }) : wpAny (model P w) A (setWalkUnseen o [r] (some r)) Q E s := by
  obtain ⟨oo, epo, hoo, hxo, hdo, go, ndo, hbo, hfo, hro, hlo⟩ := id T
  unfold setWalkUnseen
  refine wpAny_bind (wpAny_setState_of hoo hdo hfo ?_)
  dsimp only
  refine wpAny_bind (wpAny_byText ?_)
  split
  · rename_i hc
    simp only [Bool.or_eq_true, Bool.and_eq_true, decide_eq_true_eq] at hc
    refine walkS T ?_ fun out p => hQ out s.heap tr p (Heap.SameBut.refl r s.heap) R
    rcases hc with (hc | hc) | hc
    · exact .inl hc
    · exact .inr (.inl hc)
    · exact .inr (.inr hc)
  · try refine wpAny_bind (wpAny_pure ?_)
    refine wpAny_bind (quietS (fun b hb => ?_) ?_)
    · rcases List.mem_cons.mp hb with e | e
      · subst e; exact ⟨_, _, T⟩
      · obtain rfl := List.mem_singleton.mp e
        exact ⟨_, _, R⟩
    refine wp_if_neg (by simp) ?_
    try refine wpAny_bind (wpAny_pure ?_)
    refine wpAny_bind (wpAny_rule ?_)
    obtain ⟨orr, epr, hor, hxr, hdr, gr, ndr, hbr, hfr, hrr, hlr⟩ := id R
    refine wpAny_bind (wpAny_setState_of hor hdr hfr ?_)
    dsimp only
    split
    · refine wpAny_bind (wpAny_storeSet_of hor hdr ?_ (fits_of_scanBound hbr))
      refine wpAny_pure (hQ eo _ _ (List.Perm.refl _) (Heap.SameBut.update ..) (TabS.put hor hxr hdr gr ndr hbr hfr hrr ?_))
      rcases hlr with z | z
      · exact .inl z
      · rcases hlo with z2 | z2
        · exact .inl z2
        · exact .inr (by show (tr.led && to.led) = true; rw [z, z2]; rfl)
    · first
        | exact wpAny_pure (hQ eo s.heap tr (List.Perm.refl _) (Heap.SameBut.refl r s.heap) R)
        | exact wpAny_bind (wpAny_pure (wpAny_pure (hQ eo s.heap tr (List.Perm.refl _) (Heap.SameBut.refl r s.heap) R)))
end
end TX
set_option Elab.async false
set_option linter.all false
set_option maxRecDepth 100000
set_option maxHeartbeats 2000000
namespace TX
open PySem PySem.Spec PyProof.Rows L2
theorem laid_ok {m f mv : Nat} {led plain : Bool} {hs : Array Int} (hM : MaskQ m) (hn : hs.size ≤ m) :
    ∃ t' order, SetTable.laid m f mv led plain hs = some (t', order) ∧ order.toList.Perm (List.range hs.size) ∧ Ris t'.place.toList ∧ t'.place.size = hs.size ∧ t'.mask = m ∧ t'.led = led ∧ t'.dummies = #[] := by
  obtain ⟨owner, e, _⟩ := layClean_ok hM hn
  have h1 : SetTable.laid m f mv led plain hs = some ({ mask := m, place := ((liveOf m owner).map (·.1)).toArray, dummies := #[], finger := f, led, moves := mv, plain }, ((liveOf m owner).map (·.2)).toArray) := by
    show (SetTable.layClean m hs).bind _ = _
    rw [e]
    rfl
  have hw : SetTable.sizeAbove m - 1 = m := by
    rcases hM with e | e | e | e | e | e <;> subst e <;> decide +kernel
  obtain ⟨t', order, e2, q1, q2, q3, q4, q5, q6, q7⟩ := relaid_ok (SetTable.fresh 0 0 true) (wanted := m) hw hM hn
  have h2 : (SetTable.fresh 0 0 true).relaid hs m = some (tabOf (SetTable.fresh 0 0 true) m owner, ((liveOf m owner).map (·.2)).toArray) := by
    rw [relaid_eq, hw, e]
    rfl
  rw [h2] at e2
  obtain ⟨e3, e4⟩ := Prod.mk.inj (Option.some.inj e2)
  subst e3 e4
  exact ⟨_, _, h1, q1, q2, q3, rfl, rfl, rfl⟩
theorem setMerge_eq (s o : Addr) (each : Sem Unit) : setMerge s o each = (do
    if s == o then return
    let (eo, epoch, to) ← setState o
    if eo.isEmpty then return
    setRoomFor s eo.size
    let (_, _, ts) ← setState s
    match ts.road to with
    | .slotForSlot => storeSet s eo { to with finger := ts.finger, led := ts.led && to.led, moves := ts.moves, plain := ts.plain && to.plain }
    | .clean =>
      let (es, t) ← (do
        let some (t, order) := SetTable.laid ts.mask ts.finger ts.moves (led := ts.led && to.led) (plain := ts.plain && to.plain) (eo.map (·.1)) | unsupported "internal:set-table-without-room"
        let es' := order.filterMap (eo[·]?)
        if es'.size != eo.size then unsupported "internal:set-table-lost-an-element"
        pure (es', t) : Sem (Array (Int × Value) × SetTable))
      storeSet s es t
    | .oneByOne =>
      for (h, x) in ← setWalkUnseen o [s] (some s) do
        let _ ← holding [x] (setAddHashed s x h)
        each
        if (← setState o).2.1 != epoch then unsupported "set.changed-during-merge") := by rfl
section
variable {P : Program} {w : World} {A : Around} {E : Value → Shared → Prop} {s : Shared} {a r o : Addr} {es er eo : Array (Int × Value)} {t tr to : SetTable}
theorem TabS.place (R : TabS w s.heap a es t) : t.place.size = es.size := by
  obtain ⟨o, ep, ho, hx, hd, g, nd, hb, hf, hr, hl⟩ := R
  simp only [SetTable.fits, Bool.and_eq_true, beq_iff_eq] at hf
  exact hf.1
theorem TabS.good (R : TabS w s.heap a es t) : ∀ e ∈ es.toList, GoodS w e := by
  obtain ⟨o, ep, ho, hx, hd, g, _⟩ := R
  exact g
theorem nil_of {es : Array (Int × Value)} (h : es.size = 0) : es.toList = [] := by
  have : es.toList.length = 0 := h
  exact List.length_eq_zero_iff.mp this
/-- r takes in what o has -/
theorem mergeS {each : Sem Unit} {Q : Unit → Shared → Prop} (R : TabS w s.heap r er tr) (T : TabS w s.heap o eo to) (ne : r ≠ o) (hm : er.size = 0 → MaskQ tr.mask) (few : (er.size + eo.size) * 2 < 256)
    (hE : ∀ (s1 : Shared) (Q1 : Unit → Shared → Prop), s1.heap.get? o = s.heap.get? o → Q1 () s1 → wpAny (model P w) A each Q1 E s1)
    (hQ : ∀ h' er' tr', Heap.SameBut r s.heap h' → TabS w h' r er' tr' → (∀ k, k ∈ er'.toList.map keyS ↔ k ∈ er.toList.map keyS ∨ k ∈ eo.toList.map keyS) → (er'.size = 0 → MaskQ tr'.mask) → er'.size ≤ er.size + eo.size → Q () { s with heap := h' }) :
    wpAny (model P w) A (setMerge r o each) Q E s := by
  obtain ⟨oo, epo, hoo, hxo, hdo, go, ndo, hbo, hfo, hro, hlo⟩ := id T
  rw [setMerge_eq]
  refine wp_if_neg (by simpa using ne) ?_
  try refine wpAny_bind (wpAny_pure ?_)
  refine wpAny_bind (wpAny_setState_of hoo hdo hfo ?_)
  dsimp only
  by_cases hemp : eo.isEmpty = true
  · refine wp_if_pos hemp ?_
    have z : eo.size = 0 := by simpa using hemp
    exact wpAny_pure (hQ s.heap er tr (Heap.SameBut.refl r s.heap) R (fun k => by rw [nil_of z]; simp) hm (by omega))
  refine wp_if_neg hemp ?_
  try refine wpAny_bind (wpAny_pure ?_)
  have hpos : 0 < eo.size := by
    rcases Nat.eq_zero_or_pos eo.size with z | z
    · exact absurd (by simpa using z) hemp
    · exact z
  refine wpAny_bind (roomS R few fun h1 er1 tr1 sb1 R1 pm1 mq1 nq1 bq1 => ?_)
  have T1 : TabS w h1 o eo to := T.at fun u e => (sb1.2 o (Ne.symm ne)).trans e
  have T1' := T1
  obtain ⟨o1, ep1, ho1, hx1, hd1, g1, nd1, hb1, hf1, hr1, hl1⟩ := id R1
  have pl1 := TabS.place (s := { s with heap := h1 }) R1
  have sz1 : er1.size = er.size := by
    have := pm1.length_eq
    rw [Array.length_toList, Array.length_toList] at this
    exact this
  have mem1 : ∀ k, k ∈ er1.toList.map keyS ↔ k ∈ er.toList.map keyS := fun k => (pm1.map keyS).mem_iff
  refine wpAny_bind (wpAny_setState_of (s := { s with heap := h1 }) ho1 hd1 hf1 ?_)
  dsimp only
  have hfill : tr1.fill = 0 → er1.size = 0 := fun z => by
    unfold SetTable.fill at z
    omega
  have led2 : w.params.followText "set-order" = true ∨ (tr1.led && to.led) = true := by
    rcases hl1 with z | z
    · exact .inl z
    · rcases hlo with z2 | z2
      · exact .inl z2
      · exact .inr (by rw [z, z2]; rfl)
  cases hroad : tr1.road to with
  | slotForSlot =>
    dsimp only
    have hz : er1.size = 0 := by
      unfold SetTable.road at hroad
      split at hroad
      · cases hroad
      · rename_i h; exact hfill (by simpa using h)
    have hmk : tr1.mask = to.mask := by
      unfold SetTable.road at hroad
      split at hroad
      · cases hroad
      · split at hroad
        · rename_i h; simp only [Bool.and_eq_true, beq_iff_eq] at h; exact h.1
        · cases hroad
    refine wpAny_storeSet_of (s := { s with heap := h1 }) ho1 hd1 ?_ (fits_of_scanBound hbo)
    refine hQ _ eo _ (sb1.trans (Heap.SameBut.update _ r _)) (TabS.put (s := { s with heap := h1 }) ho1 hx1 hd1 go ndo hbo hfo hro led2) (fun k => ?_) (fun z => by omega) (by omega)
    rw [← mem1, nil_of hz]
    simp
  | clean =>
    dsimp only
    have hz : er1.size = 0 := by
      unfold SetTable.road at hroad
      split at hroad
      · cases hroad
      · rename_i h; exact hfill (by simpa using h)
    have mq : MaskQ tr1.mask := mq1 (hm (by omega))
    have hle : eo.size ≤ tr1.mask := by
      cases hc : tr.roomFor eo.size with
      | none =>
        obtain ⟨e1, e2⟩ := nq1 hc
        subst e1 e2
        unfold SetTable.roomFor at hc
        split at hc
        · cases hc
        · rename_i h
          simp only [ge_iff_le, Nat.not_le] at h
          omega
      | some v =>
        have := bq1 (by rw [hc]; rfl)
        omega
    obtain ⟨t', order, e, q1, q2, q3, q4, q5, q7⟩ := laid_ok (f := tr1.finger) (mv := tr1.moves) (led := tr1.led && to.led) (plain := tr1.plain && to.plain) (hs := eo.map (·.1)) mq (by rw [Array.size_map]; exact hle)
    rw [Array.size_map] at q1 q3
    have pm := order_perm (es := eo) q1
    have hs2 : (order.filterMap (eo[·]?)).size = eo.size := by
      have := pm.length_eq
      rw [Array.length_toList, Array.length_toList] at this
      exact this
    rw [e]
    dsimp only
    refine wpAny_bind ?_
    refine wp_if_neg (by rw [hs2]; simp) ?_
    try refine wpAny_bind (wpAny_pure ?_)
    refine wpAny_pure ?_
    dsimp only
    refine wpAny_storeSet_of (s := { s with heap := h1 }) ho1 hd1 ?_ (by rw [hs2]; exact fits_of_scanBound hbo)
    refine hQ _ _ t' (sb1.trans (Heap.SameBut.update _ r _)) (TabS.put (s := { s with heap := h1 }) ho1 hx1 hd1 (fun e he => go e (pm.mem_iff.mp he)) ((pm.map keyS).nodup_iff.mpr ndo) (by rw [hs2]; exact hbo) ?_ q2 (led2.imp id fun z => by rw [q5]; exact z)) (fun k => ?_) (fun z => by omega) (by omega)
    · rw [hs2]
      exact fits_of q3 q7 (by rw [q4]; exact hle)
    · rw [← mem1, nil_of hz, (pm.map keyS).mem_iff]
      simp
  | oneByOne =>
    dsimp only
    refine wpAny_bind (walkUnseenS (s := { s with heap := h1 }) R1 T1 ne fun out h2 tr2 po sb2 R2 => ?_)
    have sb12 := sb1.trans sb2
    refine wpAny_bind (MeetsSeq2.wpAny_forIn_array _ (fun rest _ s' => ∃ h' er' tr', s' = { s with heap := h' } ∧ Heap.SameBut r s.heap h' ∧ TabS w h' r er' tr' ∧ er'.size + rest.length ≤ er.size + eo.size ∧ (rest = [] ∨ True) ∧ (er'.size = 0 → rest ≠ []) ∧
      (∀ k, k ∈ er'.toList.map keyS ∨ k ∈ rest.map keyS ↔ k ∈ er.toList.map keyS ∨ k ∈ eo.toList.map keyS) ∧ (∀ e ∈ rest, GoodS w e)) _ ?_ ?_ out _ ⟨h2, er1, tr2, rfl, sb12, R2, ?_, .inr trivial, fun _ z => ?_, fun k => ?_, fun e he => go e (po.mem_iff.mp he)⟩)
    · rintro e rest b s' ⟨h3, er3, tr3, rfl, sb3, R3, hl3, _, _, mem3, g3⟩
      obtain ⟨k, tk, he1, he2⟩ := g3 e List.mem_cons_self
      obtain ⟨hh, x⟩ := e
      dsimp only at he1 he2
      subst he1 he2
      dsimp only
      have S3 := TabS.setS (S := fun k => decide (k ∈ er3.toList.map keyS)) R3 (fun k => by rw [decide_eq_true_eq])
      simp only [List.length_cons] at hl3
      refine wpAny_bind (wpAny_holding (setS_add_hashed (P := P) (s := { s with heap := h3 }) S3 (by unfold scanBound; omega) fun h4 sb4 S4 => ?_))
      have sb34 := sb3.trans sb4
      refine wpAny_bind (hE { s with heap := h4 } _ (sb34.2 o (Ne.symm ne)) ?_)
      have ho4 : h4.get? o = some oo := (sb34.2 o (Ne.symm ne)).trans hoo
      refine wpAny_bind (wpAny_setState_of (s := { s with heap := h4 }) ho4 hdo hfo ?_)
      dsimp only
      refine wp_if_neg (by simp) ?_
      try refine wpAny_bind (wpAny_pure ?_)
      obtain ⟨er4, tr4, R4, m4, n4⟩ := S4.tab
      refine wpAny_pure ⟨h4, er4, tr4, rfl, sb34, R4, ?_, .inr trivial, fun z => ?_, fun k' => ?_, fun e he => g3 e (List.mem_cons_of_mem _ he)⟩
      · rw [n4]
        split <;> omega
      · exfalso
        have := (m4 k).mp (by simp)
        rw [nil_of z] at this
        simp at this
      · rw [← mem3 k', ← m4 k']
        simp only [Bool.or_eq_true, decide_eq_true_eq, List.map_cons, List.mem_cons]
        have ek : keyS (hashStr w k, Value.str k tk) = k := rfl
        rw [ek]
        constructor
        · rintro ((h | h) | h)
          · exact .inl h
          · exact .inr (.inl h)
          · exact .inr (.inr h)
        · rintro (h | h | h)
          · exact .inl (.inl h)
          · exact .inl (.inr h)
          · exact .inr h
    · rintro b s' ⟨h3, er3, tr3, rfl, sb3, R3, hl3, _, nz3, mem3, g3⟩
      exact wpAny_pure (hQ h3 er3 tr3 sb3 R3 (fun k => by rw [← mem3 k]; simp) (fun z => absurd rfl (nz3 z)) (by simpa using hl3))
    · rw [po.length_eq, Array.length_toList]
      omega
    · have := po.length_eq
      rw [z] at this
      simp at this
      omega
    · rw [mem1, (po.map keyS).mem_iff]
end
end TX
set_option Elab.async false
set_option linter.all false
set_option maxRecDepth 100000
set_option maxHeartbeats 2000000
namespace TX
open PySem PySem.Spec PyProof.Rows L2
section
variable {prog : Program} {w : World} {A : Around} {E : Value → Shared → Prop} {s : Shared}
set_option maxHeartbeats 3200000 in
theorem call_set_listS {l : Addr} {items : Array Value} {xs : List Str} {Q : Value → Shared → Prop}
    (hh : A.handled = none) (hl : s.heap.IsList l items) (hi : PyProof.Rows.StrsAre items.toList xs) (hb : items.size + 1 < scanBound)
    (h : ∀ (h' : Heap) (tk : Nat), SetS w h' s.heap.objs.size (fun k' => decide (k' ∈ xs)) (canon xs).length →
      (∀ b o, b < s.heap.objs.size → s.heap.get? b = some o → h'.get? b = some o) → Q (.ref s.heap.objs.size) { s with heap := h', toks := tk }) :
    wpAny (model prog w) A (call (.type "set") [.ref l]) Q E s := by
  obtain ⟨c, tl, hmro⟩ := PySem.F.called_set.mro
  have hmade := PySem.F.called_set.made
  have hsub := PySem.F.called_set.sub
  refine wpAny_call (codeAny_of_tree ?_)
  show wpAny _ _ (callAny (.type "set") _) _ _ _
  refine wpAny_pure ⟨Code.quiet_builtin _ (by decide +kernel), codeAny_builtin PySem.F.entry_type_call ?_⟩
  rw [Around.under_plain (weight_type_call_type "set" [.ref l] []) rfl]
  have h1 := PySem.F.called_set.notType
  have h2 := PySem.F.called_set.canCreate
  have hct := PySem.F.typeCall_set_1 (.ref l)
  repeat (any_goals (first | assumption | wp_step))

  refine codeAny_mono (code_set_led1 (.ref l) (E := E) (Q₁ := fun obj s₁ => ∃ led : Bool, led = (!w.params.followText "set-order") ∧ obj = .ref s.heap.objs.size ∧ s₁ = { s with heap := s.heap.push { cls := .type "set", dict := none, data := .set #[] 0 (.fresh 0 0 led) } }) ⟨_, rfl, rfl, rfl⟩) fun r s₁ hr => ?_
  cases r with
  | error e => exact hr
  | ok fl =>
    cases fl with
    | ret obj =>
      obtain ⟨led, hled, rfl, rfl⟩ := hr
      have hS : (s.heap.push { cls := .type "set", dict := none, data := .set #[] 0 (.fresh 0 0 led) }).get? s.heap.objs.size = some { cls := .type "set", dict := none, data := .set #[] 0 (.fresh 0 0 led) } := Heap.get?_push_size _ rfl
      have hT : Shared.TypeIs { s with heap := s.heap.push { cls := .type "set", dict := none, data := .set #[] 0 (.fresh 0 0 led) } } (.ref s.heap.objs.size) "set" := ⟨_, hS, rfl⟩
      have hli := PySem.F.called_set.init.lookup
      have hbi := PySem.F.called_set.init.bind (.ref s.heap.objs.size)
      repeat (any_goals (first | assumption | wp_step))

      refine codeAny_mono (codeAny_call_builtin (R := wants (fun r s₂ => r = .none ∧ ∃ h' tk, s₂ = { s with heap := h', toks := tk } ∧
          SetS w h' s.heap.objs.size (fun k' => decide (k' ∈ xs)) (canon xs).length ∧
          (∀ b o, b < s.heap.objs.size → s.heap.get? b = some o → h'.get? b = some o)) E) PySem.F.called_set.init.plain PySem.F.entry_set_init (check_set_init_1 hT ?_)) fun r₂ s₂ hr₂ => ?_
      · obtain ⟨ol, hol, hcl, nl, hdl⟩ := hl
        obtain ⟨ocls, odict, odata, oslots⟩ := ol
        simp only at hcl hdl
        subst hcl; subst hdl
        have hol' : (s.heap.push { cls := .type "set", dict := none, data := .set #[] 0 (.fresh 0 0 led) }).get? l = some { cls := .type "list", dict := odict, data := .seq items nl, slots := oslots } := Heap.get?_push_of_some _ hol
        have hsls := PySem.F.sub_list_set
        have hslf := PySem.F.sub_list_frozenset
        have hne : (Value.type "list" == Value.type "dict") = false := by decide
        have hl1 : (s.heap.push { cls := .type "set", dict := none, data := .set #[] 0 (.fresh 0 0 led) }).IsList l items := ⟨_, hol', rfl, nl, rfl⟩
        unfold Builtin.«set.__init__» noKeywords Builtin.Frozenset.updateFrom
        generalize hPI : pyIter = PI
        wp_walk
        subst hPI

        refine wpAny_pyIter_list hl1 ?_
        refine wpAny_bind (wpAny_runValue ?_)
        have hlS : l < s.heap.objs.size := Heap.lt_size hol
        have hh3 : A.in1.in1.in1.handled = none := by simp [hh]
        have hneI : l ≠ (s.heap.push { cls := .type "set", dict := none, data := .set #[] 0 (.fresh 0 0 led) }).objs.size := by
          rw [Heap.size_push]; exact Nat.ne_of_lt (Nat.lt_succ_of_lt hlS)
        have hSf : s.heap.objs.size ∉ [(s.heap.push { cls := .type "set", dict := none, data := .set #[] 0 (.fresh 0 0 led) }).objs.size, l] := by
          rw [Heap.size_push]; simp only [List.mem_cons, List.mem_singleton, List.not_mem_nil, or_false, not_or]
          exact ⟨Nat.ne_of_lt (Nat.lt_succ_self _), Nat.ne_of_gt hlS⟩
        have hsz : xs.length = items.size := by rw [← StrsAre.len_eq hi, Array.length_toList]
        have hval : ∀ (i : Nat) (v : Value), items[i]? = some v → ∃ t, v = .str (xs.getD i Str.empty) t := fun i v hv => SS.strs_at hi i v (by rw [Array.getElem?_toList]; exact hv)
        refine loopTx ((Walks.list hh3 _ l hneI items).toS) s.heap.objs.size
          hSf xs hsz hb hval (items.size - 0) 0 _ (by omega) (Nat.zero_le _)
          ⟨⟨_, Heap.get?_push_size _ rfl, rfl, rfl⟩, (hl1.push _)⟩ ?hS0 ?hR
        case hS0 =>
          have hget : ((s.heap.push { cls := .type "set", dict := none, data := .set #[] 0 (.fresh 0 0 led) }).push { cls := .type "list_iterator", data := .fields #[.ref l, .int 0 0] }).get? s.heap.objs.size
              = some { cls := .type "set", dict := none, data := .set #[] 0 (.fresh 0 0 led) } := Heap.get?_push_of_some _ hS
          exact ⟨0, Nat.le_refl _, (setS_at0 hled hget).congr fun k => by simp⟩
        case hR =>
          intro s' hm ⟨nn, hnn, hS0⟩
          have hS' := SetS.canon hS0 (by rw [← hsz, List.take_length])
          obtain ⟨h', g', d', tk', os'⟩ := s'
          have eg : g' = s.gens := hm.gens
          have ed : d' = s.drawn := hm.drawn
          have eo : os' = s.os := hm.os
          subst eg; subst ed; subst eo
          show wpAny _ _ _ _ _ _
          refine wpAny_pure ?_
          show wpAny _ _ (ret Value.none) _ _ _
          refine wpAny_pure ⟨rfl, h', tk', rfl, hS', fun b o hb e => ?_⟩
          have hb1 : b ≠ s.heap.objs.size := Nat.ne_of_lt hb
          have hb2 : b ≠ (s.heap.push { cls := .type "set", dict := none, data := .set #[] 0 (.fresh 0 0 led) }).objs.size := by
            rw [Heap.size_push]; exact Nat.ne_of_lt (Nat.lt_succ_of_lt hb)
          exact hm.heap b o (by simp only [List.mem_cons, List.mem_singleton, List.not_mem_nil, or_false, not_or]; exact ⟨hb1, hb2⟩) (Heap.get?_push_of_some _ (Heap.get?_push_of_some _ e))

      · cases r₂ with
        | error e => exact hr₂
        | ok fl₂ =>
          cases fl₂ with
          | ret r =>
            obtain ⟨rfl, h', tk, rfl, hS', hk'⟩ := hr₂
            repeat (any_goals (first | assumption | wp_step))
            exact h _ _ hS' hk'
          | _ => exact hr₂.elim
    | _ => exact hr.elim

set_option maxHeartbeats 3200000 in
theorem call_set_tupleS {l : Addr} {items : Array Value} {xs : List Str} {Q : Value → Shared → Prop}
    (hh : A.handled = none) (hl : s.heap.IsTuple l items) (hi : PyProof.Rows.StrsAre items.toList xs) (hb : items.size + 1 < scanBound)
    (h : ∀ (h' : Heap) (tk : Nat), SetS w h' s.heap.objs.size (fun k' => decide (k' ∈ xs)) (canon xs).length →
      (∀ b o, b < s.heap.objs.size → s.heap.get? b = some o → h'.get? b = some o) → Q (.ref s.heap.objs.size) { s with heap := h', toks := tk }) :
    wpAny (model prog w) A (call (.type "set") [.ref l]) Q E s := by
  obtain ⟨c, tl, hmro⟩ := PySem.F.called_set.mro
  have hmade := PySem.F.called_set.made
  have hsub := PySem.F.called_set.sub
  refine wpAny_call (codeAny_of_tree ?_)
  show wpAny _ _ (callAny (.type "set") _) _ _ _
  refine wpAny_pure ⟨Code.quiet_builtin _ (by decide +kernel), codeAny_builtin PySem.F.entry_type_call ?_⟩
  rw [Around.under_plain (weight_type_call_type "set" [.ref l] []) rfl]
  have h1 := PySem.F.called_set.notType
  have h2 := PySem.F.called_set.canCreate
  have hct := PySem.F.typeCall_set_1 (.ref l)
  repeat (any_goals (first | assumption | wp_step))

  refine codeAny_mono (code_set_led1 (.ref l) (E := E) (Q₁ := fun obj s₁ => ∃ led : Bool, led = (!w.params.followText "set-order") ∧ obj = .ref s.heap.objs.size ∧ s₁ = { s with heap := s.heap.push { cls := .type "set", dict := none, data := .set #[] 0 (.fresh 0 0 led) } }) ⟨_, rfl, rfl, rfl⟩) fun r s₁ hr => ?_
  cases r with
  | error e => exact hr
  | ok fl =>
    cases fl with
    | ret obj =>
      obtain ⟨led, hled, rfl, rfl⟩ := hr
      have hS : (s.heap.push { cls := .type "set", dict := none, data := .set #[] 0 (.fresh 0 0 led) }).get? s.heap.objs.size = some { cls := .type "set", dict := none, data := .set #[] 0 (.fresh 0 0 led) } := Heap.get?_push_size _ rfl
      have hT : Shared.TypeIs { s with heap := s.heap.push { cls := .type "set", dict := none, data := .set #[] 0 (.fresh 0 0 led) } } (.ref s.heap.objs.size) "set" := ⟨_, hS, rfl⟩
      have hli := PySem.F.called_set.init.lookup
      have hbi := PySem.F.called_set.init.bind (.ref s.heap.objs.size)
      repeat (any_goals (first | assumption | wp_step))

      refine codeAny_mono (codeAny_call_builtin (R := wants (fun r s₂ => r = .none ∧ ∃ h' tk, s₂ = { s with heap := h', toks := tk } ∧
          SetS w h' s.heap.objs.size (fun k' => decide (k' ∈ xs)) (canon xs).length ∧
          (∀ b o, b < s.heap.objs.size → s.heap.get? b = some o → h'.get? b = some o)) E) PySem.F.called_set.init.plain PySem.F.entry_set_init (check_set_init_1 hT ?_)) fun r₂ s₂ hr₂ => ?_
      · obtain ⟨ol, hol, hcl, nl, hdl⟩ := hl
        obtain ⟨ocls, odict, odata, oslots⟩ := ol
        simp only at hcl hdl
        subst hcl; subst hdl
        have hol' : (s.heap.push { cls := .type "set", dict := none, data := .set #[] 0 (.fresh 0 0 led) }).get? l = some { cls := .type "tuple", dict := odict, data := .seq items nl, slots := oslots } := Heap.get?_push_of_some _ hol
        have hsls := PySem.F.sub_tuple_set
        have hslf := PySem.F.sub_tuple_frozenset
        have hne : (Value.type "tuple" == Value.type "dict") = false := by decide
        have hl1 : (s.heap.push { cls := .type "set", dict := none, data := .set #[] 0 (.fresh 0 0 led) }).IsTuple l items := ⟨_, hol', rfl, nl, rfl⟩
        unfold Builtin.«set.__init__» noKeywords Builtin.Frozenset.updateFrom
        generalize hPI : pyIter = PI
        wp_walk
        subst hPI

        refine wpAny_pyIter_tuple hl1 ?_
        refine wpAny_bind (wpAny_runValue ?_)
        have hlS : l < s.heap.objs.size := Heap.lt_size hol
        have hh3 : A.in1.in1.in1.handled = none := by simp [hh]
        have hneI : l ≠ (s.heap.push { cls := .type "set", dict := none, data := .set #[] 0 (.fresh 0 0 led) }).objs.size := by
          rw [Heap.size_push]; exact Nat.ne_of_lt (Nat.lt_succ_of_lt hlS)
        have hSf : s.heap.objs.size ∉ [(s.heap.push { cls := .type "set", dict := none, data := .set #[] 0 (.fresh 0 0 led) }).objs.size, l] := by
          rw [Heap.size_push]; simp only [List.mem_cons, List.mem_singleton, List.not_mem_nil, or_false, not_or]
          exact ⟨Nat.ne_of_lt (Nat.lt_succ_self _), Nat.ne_of_gt hlS⟩
        have hsz : xs.length = items.size := by rw [← StrsAre.len_eq hi, Array.length_toList]
        have hval : ∀ (i : Nat) (v : Value), items[i]? = some v → ∃ t, v = .str (xs.getD i Str.empty) t := fun i v hv => SS.strs_at hi i v (by rw [Array.getElem?_toList]; exact hv)
        refine loopTx ((Walks.tuple hh3 _ l hneI items).toS) s.heap.objs.size
          hSf xs hsz hb hval (items.size - 0) 0 _ (by omega) (Nat.zero_le _)
          ⟨⟨_, Heap.get?_push_size _ rfl, rfl, rfl⟩, (hl1.push _)⟩ ?hS0 ?hR
        case hS0 =>
          have hget : ((s.heap.push { cls := .type "set", dict := none, data := .set #[] 0 (.fresh 0 0 led) }).push { cls := .type "tuple_iterator", data := .fields #[.ref l, .int 0 0] }).get? s.heap.objs.size
              = some { cls := .type "set", dict := none, data := .set #[] 0 (.fresh 0 0 led) } := Heap.get?_push_of_some _ hS
          exact ⟨0, Nat.le_refl _, (setS_at0 hled hget).congr fun k => by simp⟩
        case hR =>
          intro s' hm ⟨nn, hnn, hS0⟩
          have hS' := SetS.canon hS0 (by rw [← hsz, List.take_length])
          obtain ⟨h', g', d', tk', os'⟩ := s'
          have eg : g' = s.gens := hm.gens
          have ed : d' = s.drawn := hm.drawn
          have eo : os' = s.os := hm.os
          subst eg; subst ed; subst eo
          show wpAny _ _ _ _ _ _
          refine wpAny_pure ?_
          show wpAny _ _ (ret Value.none) _ _ _
          refine wpAny_pure ⟨rfl, h', tk', rfl, hS', fun b o hb e => ?_⟩
          have hb1 : b ≠ s.heap.objs.size := Nat.ne_of_lt hb
          have hb2 : b ≠ (s.heap.push { cls := .type "set", dict := none, data := .set #[] 0 (.fresh 0 0 led) }).objs.size := by
            rw [Heap.size_push]; exact Nat.ne_of_lt (Nat.lt_succ_of_lt hb)
          exact hm.heap b o (by simp only [List.mem_cons, List.mem_singleton, List.not_mem_nil, or_false, not_or]; exact ⟨hb1, hb2⟩) (Heap.get?_push_of_some _ (Heap.get?_push_of_some _ e))

      · cases r₂ with
        | error e => exact hr₂
        | ok fl₂ =>
          cases fl₂ with
          | ret r =>
            obtain ⟨rfl, h', tk, rfl, hS', hk'⟩ := hr₂
            repeat (any_goals (first | assumption | wp_step))
            exact h _ _ hS' hk'
          | _ => exact hr₂.elim
    | _ => exact hr.elim

end
end TX
set_option Elab.async false
set_option linter.all false
set_option maxRecDepth 100000
set_option maxHeartbeats 2000000
namespace TX
open PySem PySem.Spec PyProof.Rows L2
theorem entry_set_or : entryFor table "set.__or__" = some Builtin.«frozenset.__or__» :=
  entryFor_alias (id' := "frozenset.__or__") (by kernel_rfl) rfl (by decide +kernel) (by kernel_rfl)
/-- the set of the texts L -/
def SetC (w : World) (h : Heap) (a : Addr) (L : List Str) : Prop := SetS w h a (fun k => decide (k ∈ L)) (canon L).length
theorem SetC.congr {w : World} {h : Heap} {a : Addr} {L M : List Str} (R : SetC w h a L) (e : ∀ k, k ∈ L ↔ k ∈ M) : SetC w h a M := by
  unfold SetC at R ⊢
  rw [canon_congr (fun k => (e k).symm)]
  exact SetS.congr R fun k => by rw [Bool.eq_iff_iff]; simp [e k]
theorem SetC.tab {w : World} {h : Heap} {a : Addr} {L : List Str} (R : SetC w h a L) : ∃ es t, TabS w h a es t ∧ (∀ k, k ∈ es.toList.map keyS ↔ k ∈ L) ∧ es.size = (canon L).length := by
  obtain ⟨es, t, T, m, n⟩ := SetS.tab R
  exact ⟨es, t, T, fun k => by rw [← m k, decide_eq_true_eq], n⟩
theorem TabS.setC {w : World} {h : Heap} {a : Addr} {es : Array (Int × Value)} {t : SetTable} {L : List Str} (R : TabS w h a es t) (m : ∀ k, k ∈ es.toList.map keyS ↔ k ∈ L) : SetC w h a L := by
  have S1 := TabS.setS (S := fun k => decide (k ∈ L)) R (fun k => by rw [decide_eq_true_eq, m k])
  exact SetS.canon S1 rfl
section
variable {P : Program} {w : World} {A : Around} {E : Value → Shared → Prop} {s : Shared} {a b : Addr} {L M : List Str}
theorem sub_set_set : isSubtype (.type "set") (.type "set") = pure true := PySem.sub_set_self
theorem anyS {Q : Bool → Shared → Prop} (hT : s.TypeIs (.ref a) "set") (h : Q true s) : wpAny (model P w) A (Builtin.Frozenset.isAnySet (.ref a)) Q E s := by
  unfold Builtin.Frozenset.isAnySet
  show wpAny _ _ (isInstance (.ref a) (.type "set") >>= _) _ _ _
  refine wpAny_bind (wpAny_isInstance hT PySem.sub_set_self ?_)
  exact wpAny_pure h
theorem TabS.typeIs {es : Array (Int × Value)} {t : SetTable} (R : TabS w s.heap a es t) : s.TypeIs (.ref a) "set" := by
  obtain ⟨o, ep, ho, hx, _⟩ := R
  exact ⟨o, ho, hx.1⟩
theorem baseS {Q : Value → Shared → Prop} (hT : s.TypeIs (.ref a) "set") (h : Q (.type "set") s) : wpAny (model P w) A (Builtin.Frozenset.baseOf a) Q E s := by
  unfold Builtin.Frozenset.baseOf
  refine wpAny_bind (wpAny_isInstance hT PySem.sub_set_self ?_)
  exact wpAny_pure h
theorem newS {Q : Value → Shared → Prop} (h : ∀ h' t, s.heap.objs.size < h'.objs.size → (∀ c u, s.heap.get? c = some u → h'.get? c = some u) → TabS w h' s.heap.objs.size #[] t → MaskQ t.mask → Q (.ref s.heap.objs.size) { s with heap := h' }) :
    wpAny (model P w) A (newSet (.type "set")) Q E s := by
  refine PpSet.newSet_ok (h _ _ (by rw [Heap.size_push]; exact Nat.lt_succ_self _) (fun c u e => Heap.get?_push_of_some _ e) ⟨_, 0, Heap.get?_push_size _ rfl, ⟨rfl, rfl, rfl⟩, rfl, (fun e he => by simp at he), (by simp), (by decide), (by rfl), List.Pairwise.nil, ?_⟩ (.inl rfl))
  show _ ∨ (!w.params.followText "set-order") = true
  cases w.params.followText "set-order"
  · exact .inr rfl
  · exact .inl rfl
theorem copyS {es : Array (Int × Value)} {t : SetTable} {Q : Value → Shared → Prop} (T : TabS w s.heap a es t) (few : es.size * 2 < 256)
    (h : ∀ h' er tr, s.heap.objs.size < h'.objs.size → (∀ c u, s.heap.get? c = some u → h'.get? c = some u) → TabS w h' s.heap.objs.size er tr → (∀ k, k ∈ er.toList.map keyS ↔ k ∈ es.toList.map keyS) → (er.size = 0 → MaskQ tr.mask) → er.size ≤ es.size → Q (.ref s.heap.objs.size) { s with heap := h' }) :
    wpAny (model P w) A (Builtin.Frozenset.copyOf a) Q E s := by
  unfold Builtin.Frozenset.copyOf
  have hlt : a < s.heap.objs.size := by
    obtain ⟨o, ep, ho, _⟩ := T
    exact Heap.lt_size ho
  refine wpAny_bind (baseS T.typeIs ?_)
  refine wpAny_bind (newS fun h1 t1 z1 k1 R1 m1 => ?_)
  have T1 : TabS w h1 a es t := T.at fun u e => k1 a u e
  refine wpAny_bind (wpAny_of_eq (a := s.heap.objs.size) rfl ?_)
  refine wpAny_bind (mergeS (s := { s with heap := h1 }) R1 T1 (Nat.ne_of_gt hlt) (fun _ => m1) (by simpa using few) (fun s1 Q1 _ q => wpAny_pure q) fun h2 er tr sb R2 mem mq le => ?_)
  refine wpAny_pure (h h2 er tr ?_ (fun c u e => (sb.2 c (Nat.ne_of_lt (Heap.lt_size e))).trans (k1 c u e)) R2 (fun k => ?_) mq (by simpa using le))
  · obtain ⟨o, ep, ho, _⟩ := R2
    exact Heap.lt_size ho
  · rw [mem k]
    simp
theorem unionS {Q : Value → Shared → Prop} (Ra : SetC w s.heap a L) (Rb : SetC w s.heap b M) (few : ((canon L).length + (canon M).length) * 2 < 256)
    (h : ∀ h', s.heap.objs.size < h'.objs.size → (∀ c u, s.heap.get? c = some u → h'.get? c = some u) → SetC w h' s.heap.objs.size (L ++ M) → Q (.ref s.heap.objs.size) { s with heap := h' }) :
    wpAny (model P w) A (binaryOp .BitOr (.ref a) (.ref b)) Q E s := by
  obtain ⟨ea, ta, Ta, ma, na⟩ := Ra.tab
  obtain ⟨eb, tb, Tb, mb, nb⟩ := Rb.tab
  refine wpAny_binaryOp_same (op := .BitOr) (T := "set") Ta.typeIs Tb.typeIs PySem.F.fills_set_or PySem.F.slot_set_or ?_
  refine wpAny_call_entry PySem.F.slot_set_or Ta.typeIs entry_set_or ?_ (PySem.F.args_set_or_2 _ _)
  unfold Builtin.«frozenset.__or__»
  show wpAny _ _ (Builtin.Frozenset.slot1 "__or__" _ >>= _) _ _ _
  refine wpAny_bind (wpAny_of_eq (a := ((Value.ref a : Value), (Value.ref b : Value))) (by rfl) ?_)
  dsimp only
  simp only [Bool.false_eq_true, if_false]
  refine wpAny_bind ?_
  unfold andM
  refine wpAny_bind (anyS Ta.typeIs ?_)
  show wpAny _ _ (Builtin.Frozenset.isAnySet (.ref b)) _ _ _
  refine anyS Tb.typeIs ?_
  refine wp_if_neg (by simp) ?_
  try refine wpAny_bind (wpAny_pure ?_)
  refine wpAny_bind ?_
  have hlb : b < s.heap.objs.size := by
    obtain ⟨o, ep, ho, _⟩ := Tb
    exact Heap.lt_size ho
  show wpAny _ _ (Builtin.Frozenset.copyOf a >>= _) _ _ _
  refine wpAny_bind (copyS Ta (by omega) fun h1 er tr z1 k1 R1 m1 mq le => ?_)
  have fin : ∀ h2, s.heap.objs.size < h2.objs.size → (∀ c u, s.heap.get? c = some u → h2.get? c = some u) → SetC w h2 s.heap.objs.size (L ++ M) →
      wpAny (model P w) A.in1 (ret (Value.ref s.heap.objs.size)) (fun fin s' => ∃ v, fin = Fin.done (Flow.ret v) ∧ v ≠ Value.notImplemented ∧ Q v s') E { s with heap := h2 } := fun h2 z k R => wpAny_pure ⟨_, rfl, (fun e => nomatch e), h h2 z k R⟩
  by_cases hab : a = b
  · subst hab
    refine wp_if_neg (by simp) ?_
    try refine wpAny_bind (wpAny_pure ?_)
    refine wpAny_pure (fin h1 z1 k1 (TabS.setC R1 fun k => ?_))
    have eab : ∀ k, k ∈ L ↔ k ∈ M := fun k => by
      obtain ⟨o1, p1, g1, _, d1, _⟩ := Ta
      obtain ⟨o2, p2, g2, _, d2, _⟩ := Tb
      rw [g1] at g2
      obtain rfl := Option.some.inj g2
      rw [d1] at d2
      obtain ⟨rfl, _⟩ : ea = eb ∧ True := by cases d2; exact ⟨rfl, trivial⟩
      exact (ma k).symm.trans (mb k)
    rw [m1 k, ma k, List.mem_append, ← eab k, or_self]
  · refine wp_if_pos (by simpa using Ne.symm hab) ?_
    have T1 : TabS w h1 b eb tb := Tb.at fun u e => k1 b u e
    have hmem : ∀ k, k ∈ er.toList.map keyS ↔ k ∈ L := fun k => (m1 k).trans (ma k)
    have T1' := T1
    obtain ⟨ob, epb, hob, hxb, hdb, gb, ndb, hbb, hfb, hrb, hlb'⟩ := T1'
    refine wpAny_bind (m := Builtin.Frozenset.addrOf (.ref s.heap.objs.size)) (wpAny_of_eq (a := s.heap.objs.size) rfl ?_)
    refine wpAny_bind (wpAny_holding ?_)
    unfold Builtin.Frozenset.updateFrom
    refine wpAny_bind (anyS (TabS.typeIs (s := { s with heap := h1 }) T1) ?_)
    refine wp_if_pos rfl ?_
    refine wpAny_bind (wpAny_of_eq (a := b) rfl ?_)
    unfold Builtin.Frozenset.merge
    refine wpAny_bind (wpAny_setEpoch_of (s := { s with heap := h1 }) hob hdb hfb ?_)
    refine mergeS (s := { s with heap := h1 }) R1 T1 (Nat.ne_of_gt hlb) mq (by omega) (fun s1 Q1 e q => ?_) fun h2 er2 tr2 sb R2 mem _ _ => ?_
    · unfold Builtin.Frozenset.unchanged
      have hob1 : s1.heap.get? b = some ob := e.trans hob
      refine wpAny_bind (wpAny_setEpoch_of hob1 hdb hfb ?_)
      refine wp_if_neg (by simp) ?_
      exact wpAny_pure q
    · have k2 : ∀ c u, s.heap.get? c = some u → h2.get? c = some u := fun c u e => (sb.2 c (Nat.ne_of_lt (Heap.lt_size e))).trans (k1 c u e)
      refine wpAny_pure (fin h2 ?_ k2 (TabS.setC R2 fun k => ?_))
      · obtain ⟨o, ep, ho, _⟩ := R2
        exact Heap.lt_size ho
      · rw [mem k, hmem k, mb k, List.mem_append]
end
end TX
set_option Elab.async false
set_option linter.all false
set_option maxRecDepth 100000
set_option maxHeartbeats 2000000
/-! sets of texts as tracked things: set(xs), |, sorted, len, {.. for ..} -/
namespace TX
open PySem PySem.Spec PyProof.Rows L2
section
variable {P : Program} {w : World} {A : Around} {E : Value → Shared → Prop} {s : Shared} {a : Addr} {L : List Str}
theorem sortedC {Q : Value → Shared → Prop} (R : SetC w s.heap a L) (hh : A.handled = none) (h64 : (canon L).length < 64)
    (hQ : ∀ s' p (out : Array Value) (c : Nat), (∀ b o, s.heap.get? b = some o → s'.heap.get? b = some o) → s'.gens = s.gens → s'.os = s.os → s.heap.objs.size ≤ p →
      s'.heap.get? p = some (seqObj "list" out c) → StrsAre out.toList (canon L) → Q (.ref p) s') :
    wpAny (model P w) A (call (.builtin "sorted") [.ref a]) Q E s := by
  obtain ⟨es, t, T, m, n⟩ := R.tab
  obtain ⟨o, ep, ho, hex, hd, g, nd, hb, hf, hr, hl⟩ := T
  refine Calls.call_function_entry PyProof.Rows.kind_sorted PyProof.Rows.plain_sorted PyProof.Rows.entry_sorted (PyProof.Rows.args_sorted1 _) ?_
  unfold Builtin.«sorted»
  refine wpAny_bind (m := checkCount "sorted" 1 1 _) (wpAny_pure ?_)
  refine wpAny_bind (collect_set (A := A.in1) hh ⟨o, ho, hex.1, hd⟩ hf hb hr hl fun s1 vs k1 hz g1 o1 pm => ?_)
  have hvl : vs.length = (canon L).length := by rw [pm.length_eq, List.length_map, Array.length_toList]; exact n
  have hS : StrsAre vs (vs.map PyProof.Rows.strOf) := PyProof.Rows.strsAre_map vs fun v hv => by
    obtain ⟨e, he, q⟩ := List.mem_map.mp (pm.mem_iff.mp hv)
    obtain ⟨k, tk, h1, _⟩ := g e he
    exact ⟨k, tk, by rw [← q]; exact h1⟩
  have pk : (vs.map PyProof.Rows.strOf).Perm (es.toList.map keyS) := by
    have q := pm.map PyProof.Rows.strOf
    rw [List.map_map] at q
    have e : es.toList.map (PyProof.Rows.strOf ∘ fun x => x.2) = es.toList.map keyS := List.map_congr_left fun e he => by
      obtain ⟨k, tk, h1, _⟩ := g e he
      show PyProof.Rows.strOf e.2 = keyS e
      unfold keyS
      rw [h1]
      rfl
    rw [e] at q
    exact q
  refine wpAny_bind (wpAny_newList ?_ (by rw [hvl, sizeLine_eq]; omega))
  have hoL : (s1.heap.push (seqObj "list" vs.toArray 0)).get? s1.heap.objs.size = some (seqObj "list" vs.toArray 0) := Heap.get?_push_size _ rfl
  refine wpAny_bind (wpAny_holding (wpAny_call_entry PyProof.Rows.slot_list_sort ⟨_, hoL, rfl⟩ PyProof.Rows.entry_list_sort
    (list_sort_treeK strKind_oneLt (s := { s1 with heap := s1.heap.push (seqObj "list" vs.toArray 0) }) hoL hS.keysOf (fun v₁ v₂ rest e => keyKind_strs (by rw [← e]; exact hS)) (by rw [hvl]; exact h64) fun st' hp hs => ⟨_, rfl, ?_⟩)
    (PyProof.Rows.args_list_sort _)))
  obtain ⟨ys, g1', g2, g3⟩ := sorted_out_str hS hp hs
  obtain ⟨c, hc⟩ := PyProof.Rows.sortedHeap_at (vs := vs) (out := (arrOf st').map (·.2)) hoL
  have pn : ys.Perm (es.toList.map keyS) := g2.trans pk
  have ey : ys = canon L := (sorted_srt g3 (pn.nodup_iff.mpr nd)).ext (srt_canon L) fun k => by rw [pn.mem_iff, m k, mem_canon]
  rw [ey] at g1'
  refine wpAny_pure ⟨_, rfl, hQ _ s1.heap.objs.size _ c (fun b u e => ?_) g1 o1 hz hc g1'⟩
  have q := k1 b u e
  have hlt := Heap.lt_size q
  show (PyProof.Rows.sortedHeap (s1.heap.push (seqObj "list" vs.toArray 0)) s1.heap.objs.size vs _).get? b = some u
  rw [PyProof.Rows.sortedHeap_old (Nat.ne_of_lt hlt) (by rw [size_push']; exact Nat.lt_succ_of_lt hlt)]
  exact Heap.get?_push_of_some _ q
end
/-! ### tracked -/
def SetSO (w : World) (a : Addr) (L : List Str) : HO := .ext fun h => SetC w h a L
theorem setSO_new {w : World} {P : Program} {H : Hp} {h : Heap} {a : Addr} {L : List Str} (R : SetC w h a L) : ObjOk P w H h a (SetSO w a L) := by
  have ⟨o, _, _, _, ho, _⟩ := R
  exact ⟨R, ⟨o, ho⟩, fun h1 h2 p k => SetS.at p k⟩
section
variable {X : Cx}
theorem setSO_get {pins : List (Addr × Obj)} {σ : L2.St} {H : Hp} {s : Shared} {a : Addr} {L : List Str} (I : Inv X pins σ H s) (ha : H a = some (SetSO X.w a L)) : SetC X.w s.heap a L := (I.hok a _ ha).1
/-- set(xs), xs a list or a tuple of texts -/
def rSetS (K : PySem.W.Frag) (w : World) : List V → Hp → VK → Prop := fun xs H Q => ∃ (l : Addr) (zs : List Str), xs = [V.ref l] ∧ (SqL K H l (zs.map V.str) ∨ SqT K H l (zs.map V.str)) ∧ zs.length + 1 < scanBound ∧ ∀ p, H p = none → Q (.ref p) (upd H p (SetSO w p zs))
theorem cr_setS (hc : X.calm = true) : CallR X (.type "set") (rSetS X.K X.w) := by
  intro pins s σ H xs us Q I r h
  obtain ⟨l, zs, rfl, hl, hz, q⟩ := h
  rw [Vals.ref1 r]
  have hn : H s.heap.objs.size = none := I.hok.fresh (Nat.le_refl _)
  have fin : ∀ (h' : Heap) (tk : Nat), SetS X.w h' s.heap.objs.size (fun k' => decide (k' ∈ zs)) (canon zs).length → (∀ b o, b < s.heap.objs.size → s.heap.get? b = some o → h'.get? b = some o) →
      EP X pins σ Q (.ref s.heap.objs.size) { s with heap := h', toks := tk } := fun h' tk R k =>
    ⟨.ref s.heap.objs.size, upd H s.heap.objs.size (SetSO X.w s.heap.objs.size zs), I.laid (t' := tk) (fun b o e => k b o (Heap.lt_size e) e) (Nat.le_refl _) (setSO_new R), rfl, q _ hn⟩
  rcases hl with hl | hl
  · obtain ⟨its, rv, pl, hz2⟩ := I.list hl
    have lz := rv.length
    rw [List.length_map] at lz
    exact call_set_listS (I.ok.hd hc) pl.isList rv.strs (by rw [List.size_toArray, ← lz]; exact hz) fin
  · obtain ⟨its, rv, pl, hz2⟩ := I.tuple hl
    have lz := rv.length
    rw [List.length_map] at lz
    exact call_set_tupleS (I.ok.hd hc) pl rv.strs (by rw [List.size_toArray, ← lz]; exact hz) fin
/-- a | b -/
def rOrS (w : World) : R2 := fun x y H Q => ∃ (a b : Addr) (L M : List Str), x = .ref a ∧ y = .ref b ∧ H a = some (SetSO w a L) ∧ H b = some (SetSO w b M) ∧ ((canon L).length + (canon M).length) * 2 < 256 ∧ ∀ p, H p = none → Q (.ref p) (upd H p (SetSO w p (L ++ M)))
theorem op_orS : OpR X (binaryOp .BitOr) (rOrS X.w) := by
  intro pins s σ H x y v u Q I rx ry h
  obtain ⟨a, b, L, M, rfl, rfl, ha, hb, few, q⟩ := h
  cases rx
  cases ry
  refine unionS (setSO_get I ha) (setSO_get I hb) few fun h' z k R => ?_
  exact ⟨.ref s.heap.objs.size, upd H s.heap.objs.size (SetSO X.w s.heap.objs.size (L ++ M)), I.laid (t' := s.toks) k (Nat.le_refl _) (setSO_new R), rfl, q _ (I.hok.fresh (Nat.le_refl _))⟩
/-- sorted(a) -/
def rSortedSS (w : World) : List V → Hp → VK → Prop := fun vs H Q => ∃ (a : Addr) (L : List Str), vs = [V.ref a] ∧ H a = some (SetSO w a L) ∧ (canon L).length < 64 ∧ ∀ p, H p = none → Q (.ref p) (upd H p (.lst ((canon L).map V.str)))
theorem cr_sortedSS (hc : X.calm = true) : CallR X (.builtin "sorted") (rSortedSS X.w) := by
  intro pins s σ H vs us Q I r h
  obtain ⟨a, L, rfl, ha, h64, q⟩ := h
  rw [Vals.ref1 r]
  refine sortedC (setSO_get I ha) (I.ok.hd hc) h64 fun s' p out c k g o hp hg hs => ?_
  have hlen : ((canon L).map V.str).length ≤ sizeLine := by rw [List.length_map, sizeLine_eq]; omega
  have hn : H p = none := I.hok.fresh hp
  have J : Inv X pins σ (upd H p (.lst ((canon L).map V.str))) { s with heap := s'.heap, gens := s'.gens, drawn := s'.drawn, toks := s'.toks } :=
    I.call (ch := []) (Un.laid k hp hn) (I.hok.laid k hp ⟨hlen, out.toList, c, vals_of_strs hs, hg⟩) (by rw [g]; exact I.bare) (fun _ z => nomatch z)
  have e : s' = { s with heap := s'.heap, gens := s'.gens, drawn := s'.drawn, toks := s'.toks } := by
    cases s'
    cases s
    cases o
    rfl
  rw [e]
  exact ⟨.ref p, _, J, rfl, q p hn⟩
/-- found.add(text) -/
theorem addS_ok {pins : List (Addr × Obj)} {σ : L2.St} {H : Hp} {s : Shared} {E : Value → Shared → Prop} {D : Addr} {L : List Str} {y : Str} {tk : Tok} {Q : Value → Shared → Prop} (I : Inv X pins σ H s) (hD : H D = some (SetSO X.w D L)) (room : (canon L).length + 1 < scanBound)
    (h : ∀ s', Inv X pins σ (upd H D (SetSO X.w D (y :: L))) s' → Q .none s') : wpAny (model X.prog X.w) X.A (call (.builtin "set.add") [.ref D, .str y tk]) Q E s := by
  have R := setSO_get I hD
  refine setS_add R room fun h' sb new => ?_
  have he : ∃ u, h'.get? D = some u := by
    have ⟨o, _, _, _, ho, _⟩ := new
    exact ⟨o, ho⟩
  have new2 : SetC X.w h' D (y :: L) := SetS.canon (n := _) (new.congr fun k => by rw [Bool.eq_iff_iff]; simp [or_comm]) rfl
  exact h _ (I.write (e := D) (t' := s.toks + 1) (by rw [hD]; trivial) (.inl rfl) (fun b u hb hu => (sb.2 b hb).trans hu) he (setSO_new new2))
end
section
variable {X : Cx}
/-- {elt for target in iter if ..}, elt a text: D the new set -/
def tScS (w : World) (wi : TI) (g : TG) (tt : TT) (te : TE) (vs : List Nat) : TE := fun σ H Q => wi σ H fun J H1 => ∀ D, H1 D = none → ∃ W : Nat → Nat → Hp → Prop, (∃ m, W 0 m (upd H1 D (SetSO w D []))) ∧ ∀ i m H, W i m H →
  (J.stop i H ∧ Q (.ref D) H) ∨ (J.go i H ∧ ∃ Nx : Hp → Prop, (∀ H', Nx H' → ∃ m', m' < m ∧ W (i + 1) m' H') ∧ ∀ x H', J.yld i H x H' → g x (wipe σ vs) H' fun σ2 H2 => wipe σ2 vs = wipe σ vs ∧ tt σ2 H2 fun b H3 =>
    if b = true then te σ2 H3 fun y H4 => ∃ (c : Str) (L : List Str), y = .str c ∧ H4 D = some (SetSO w D L) ∧ (canon L).length + 1 < scanBound ∧ Nx (upd H4 D (SetSO w D (c :: L))) else Nx H3)
theorem scS_core {pins : List (Addr × Obj)} {s : Shared} {σ : L2.St} {H : Hp} {Q : VK} {elt tg iter : Expr} {ifs : List Expr} {scope : Scope} {own : List (PySem.Str × Nat)} {pos pos' : Pos} {wi : TI} {g : TG} {tt : TT} {te : TE} {use : Option (Value → Sem Unit)} {Qf : Value → Shared → Prop}
    (hc : X.calm = true) (hN : X.N.Nodup) (I : Inv X pins σ H s) (hi : PI X tg iter wi) (ok : BlkOk X.N X.env.scope scope own)
    (hg : ∀ (s : Shared) (H : Hp) (C : Addr) (cl : List (PySem.Str × Addr)) (fp : List Addr), PG (X.blk s H scope (compEnvC scope cl C X.env) fp) tg g) (ht : ∀ (s : Shared) (H : Hp) (C : Addr) (cl : List (PySem.Str × Addr)) (fp : List Addr), PTs (X.blk s H scope (compEnvC scope cl C X.env) fp) ifs tt)
    (he : ∀ (s : Shared) (H : Hp) (C : Addr) (cl : List (PySem.Str × Addr)) (fp : List Addr), PE (X.blk s H scope (compEnvC scope cl C X.env) fp) elt te) (hs : ∀ x, foldedSetIterable iter X.env x = pure x)
    (h : tScS X.w wi g tt te (own.map (·.2)) σ H Q)
    (hRR : ∀ D C s' m H', Inv X pins σ H' s' → Q (.ref D) H' → s'.heap.Ns C m → FpOk X pins H' C → compPost (model X.prog X.w) X.A X.xe use Qf (.ref D) C (.ok .next) s') :
    wpAny (model X.prog X.w) X.A (comprehension (.SetComp elt [⟨tg, iter, ifs, 0⟩] scope pos) scope X.env pos' (newSet (.type "set")) false (eval iter X.env) use) Qf X.xe s := by
  have hfree : ∀ y ∈ scope.names, y.2 = .free → ∃ c, X.env.cells.lookup y.1 = some c := fun y hy e => by
    rcases ok.free y hy e with k | k
    · exact I.ok.has _ (.inl k)
    · exact I.ok.has _ (.inr k)
  refine wpAny_comprehension_free (use := use) rfl hs (closure_ok hfree) ok.kind (fun y hy e => by rw [ok.uniq y hy, e])
    (thn (hi.run pins s σ H _ I h) fun xv s1 hx => thn hx fun itv s2 h2 => ?_)
  obtain ⟨it, fp, tn, J, H2, e, I2, T, st2, f2, q⟩ := h2
  subst e
  refine PpSet.newSet_ok (newEnv_comp ?_)
  generalize hD : s2.heap.objs.size = D
  have hDn : H2 D = none := I2.hok.fresh (Nat.le_of_eq hD)
  obtain ⟨W, ⟨m0, w0⟩, turn⟩ := q D hDn
  -- the new list
  generalize hs3 : ({ s2 with heap := s2.heap.push { cls := .type "set", dict := none, data := .set #[] 0 (.fresh 0 0 (!X.w.params.followText "set-order")) } } : Shared) = s3
  have I3 : Inv X pins σ (upd H2 D (SetSO X.w D [])) s3 := by
    rw [← hs3]
    refine I2.laid (t' := s2.toks) (fun b o e => Heap.get?_push_of_some _ e) (Nat.le_of_eq hD) ?_
    rw [← hD]
    exact setSO_new (SetS.canon (n := _) ((setS_at0 rfl (Heap.get?_push_size _ rfl)).congr fun k => by simp) rfl)
  have h3 : s3.heap = s2.heap.push { cls := .type "set", dict := none, data := .set #[] 0 (.fresh 0 0 (!X.w.params.followText "set-order")) } := by rw [← hs3]
  have sz : ∀ b ∈ fp, b < s2.heap.objs.size := fun b hb => by
    obtain ⟨o, e, _⟩ := T.obj _ _ st2 b hb
    exact Heap.lt_size e
  have f3 : ∀ b ∈ fp, FpOk X pins (upd H2 D (SetSO X.w D [])) b ∧ b < s3.heap.objs.size := fun b hb => by
    have hlt := sz b hb
    refine ⟨⟨?_, (f2 b hb).2⟩, by rw [h3, Heap.size_push]; exact Nat.lt_succ_of_lt hlt⟩
    rw [upd_ne (by rw [← hD]; exact Nat.ne_of_lt hlt)]
    exact (f2 b hb).1
  have st3 : tn 0 s3.heap := T.keep _ _ _ st2 fun b _ o e => by rw [h3]; exact Heap.get?_push_of_some _ e
  have I4 := block_start I3 ok hN f3
  have pg := hg s3 (upd H2 D (SetSO X.w D [])) s3.heap.objs.size (cellsFrom (s3.heap.objs.size + 1) scope.names (cloFrom X.env.cells scope.names [])) fp
  have pt := ht s3 (upd H2 D (SetSO X.w D [])) s3.heap.objs.size (cellsFrom (s3.heap.objs.size + 1) scope.names (cloFrom X.env.cells scope.names [])) fp
  have pe := he s3 (upd H2 D (SetSO X.w D [])) s3.heap.objs.size (cellsFrom (s3.heap.objs.size + 1) scope.names (cloFrom X.env.cells scope.names [])) fp
  show codeAny _ _ (.compStart (.SetComp elt [⟨tg, iter, ifs, 0⟩] scope pos) 0 (.ref it) (.ref D) (compEnvC scope (cellsFrom (s3.heap.objs.size + 1) scope.names (cloFrom X.env.cells scope.names [])) s3.heap.objs.size X.env)) (compPost (model X.prog X.w) X.A X.xe use Qf (.ref D) s3.heap.objs.size) { s3 with heap := pushCells (s3.heap.push { cls := .type "dict", data := .dict #[] }) scope.names }
  have nfp : ∀ b ∈ fp, (upd H2 D (SetSO X.w D [])) b = none := fun b hb => (f3 b hb).1.1
  generalize hce : compEnvC scope (cellsFrom (s3.heap.objs.size + 1) scope.names (cloFrom X.env.cells scope.names [])) s3.heap.objs.size X.env = ce at I4 pg pt pe ⊢
  have cL : ce.locals = s3.heap.objs.size := by subst hce; rfl
  generalize hH3 : upd H2 D (SetSO X.w D []) = H3 at I3 I4 pg pt pe w0 nfp f3
  generalize hs4 : ({ s3 with heap := pushCells (s3.heap.push { cls := .type "dict", data := .dict #[] }) scope.names } : Shared) = s4 at I4 ⊢
  have st4 : tn 0 s4.heap := T.keep _ _ _ st3 fun b _ o e => by rw [← hs4]; exact pushCells_keeps _ _ _ _ (Heap.get?_push_of_some _ e)
  have stat : ∀ {σ' : L2.St} {H' : Hp} {s' : Shared}, Inv (X.blk s3 H3 scope ce fp) [] σ' H' s' → (∀ b ∈ fp, H' b = none) → ∀ b ∈ fp, FpOk (X.blk s3 H3 scope ce fp) [] H' b := fun {σ' H' s'} I' hn b hb =>
    ⟨hn b hb, (I'.ok.exf b hb).1, I'.ok.exfs b hb, .inl hb, fun x c e => (I'.ok.exf b hb).2 x c e, fun p hp => absurd (show p ∈ ([] : List (Addr × Obj)) ++ [] from hp) (by simp)⟩
  have loop : codeAny (model X.prog X.w) X.A (.compLoop (.SetComp elt [⟨tg, iter, ifs, 0⟩] scope pos) 0 (.ref it) (.ref D) ce) (compPost (model X.prog X.w) X.A X.xe use Qf (.ref D) s3.heap.objs.size) s4 := by
    refine PpSet.compLoopS_any (fun n s' => ∃ i H', Inv (X.blk s3 H3 scope ce fp) [] (wipe σ (own.map (·.2))) H' s' ∧ tn i s'.heap ∧ (∀ b ∈ fp, H' b = none) ∧ W i n H') ?_ m0 ⟨0, H3, I4, st4, nfp, w0⟩
    rintro n s5 ⟨i, H5, I5, st5, n5, w5⟩
    rcases turn i n H5 w5 with ⟨stop, qq⟩ | ⟨go, Nx, hNx, step⟩
    · have td := T.done (X.blk s3 H3 scope ce fp) rfl rfl rfl hc i [] s5 _ H5 (fun _ _ => False) I5 (stat I5 n5) st5 stop
      refine thnF td fun r s6 ⟨hr, I6⟩ => ?_
      subst hr
      -- back in the def's context
      have I7 : Inv X pins σ H5 s6 := I3.call' (ch := fp) I6.os I6.base I6.hok I6.bare fun b hb => ⟨(f3 b hb).1.2.2.2.1, (f3 b hb).1.2.1, (f3 b hb).1.2.2.2.2.1, (f3 b hb).1.2.2.2.2.2⟩
      have nC : H5 s3.heap.objs.size = none := by
        have z : H5 ce.locals = none := I6.free
        rw [cL] at z
        exact z
      obtain ⟨m, hn, _⟩ := I6.loc
      have hn : s6.heap.Ns ce.locals m := hn
      rw [cL] at hn
      exact hRR D s3.heap.objs.size s6 m H5 I7 qq hn (I3.fpOk (Nat.le_refl _) nC)
    · have ti := T.item (X.blk s3 H3 scope ce fp) rfl rfl rfl hc i [] s5 _ H5 (fun _ _ => False) I5 (stat I5 n5) st5 go
      refine thnF ti fun r s6 ⟨u, hr, h6⟩ => ?_
      subst hr
      refine thnF h6 fun _ s7 ⟨x, H7, I7, r7, y7, st7, n7⟩ => ?_
      have I7' := I7.pinned (stat I7 n7) (T.obj _ _ st7)
      refine thnF (pg.run _ s7 _ H7 x u _ I7' r7 (step x H7 y7)) fun _ s8 ⟨σ8, H8, I8, hw8, q8⟩ => ?_
      refine thnF (pt.run _ s8 σ8 H8 _ I8 q8) fun b s9 ⟨H9, I9, q9⟩ => ?_
      -- the turn's end
      have fin : ∀ {s' : Shared} {H' : Hp}, Inv (X.blk s3 H3 scope ce fp) ([] ++ pinsAt fp s7.heap) σ8 H' s' → Nx H' → ∃ m, m < n ∧ ∃ i H', Inv (X.blk s3 H3 scope ce fp) [] (wipe σ (own.map (·.2))) H' s' ∧ tn i s'.heap ∧ (∀ b ∈ fp, H' b = none) ∧ W i m H' := fun {s' H'} I' nx => by
        obtain ⟨m', hm, w'⟩ := hNx H' nx
        have pin' : ∀ b ∈ fp, ∀ o, s7.heap.get? b = some o → s'.heap.get? b = some o ∧ H' b = none := fun b hb o e =>
          let z := I'.pin (b, o) (List.mem_append_right _ (List.mem_append_right _ (mem_pinsAt hb e)))
          ⟨z.1, z.2.1⟩
        have hl : (wipe σ (own.map (·.2))).length = σ8.length := by rw [← hw8, wipe_length]
        refine ⟨m', hm, i + 1, H', (I'.unpinned (pins := [])).weak hl (fun j v e => ?_), T.keep _ _ _ st7 fun b hb o e => (pin' b hb o e).1, fun b hb => ?_, w'⟩
        · rw [← hw8] at e
          exact (wipe_some e).1
        · obtain ⟨o, e, _⟩ := T.obj _ _ st7 b hb
          exact (pin' b hb o e).2
      cases b with
      | false =>
        simp only [Bool.false_eq_true, if_false] at q9 ⊢
        exact fin I9 q9
      | true =>
        simp only [if_true] at q9 ⊢
        refine thnF (pe.run _ s9 σ8 H9 _ I9 q9) fun z s10 ⟨yv, H10, I10, r10, cb, L0, ey, hD10, hz10, nx⟩ => ?_
        subst ey
        obtain ⟨tk, rfl⟩ := (show L2.RelV (.str cb) z from r10)
        exact addS_ok (X := X.blk s3 H3 scope ce fp) I10 hD10 hz10 fun s11 I11 => fin I11 nx
  exact PpSet.codeAny_compStart_set loop (T.self X.A 0 _ _ _ st4 loop)
/-- as a value -/
theorem pe_scS {elt tg iter : Expr} {ifs : List Expr} {scope : Scope} {own : List (PySem.Str × Nat)} {pos : Pos} {wi : TI} {g : TG} {tt : TT} {te : TE} (hc : X.calm = true) (hN : X.N.Nodup) (hi : PI X tg iter wi) (ok : BlkOk X.N X.env.scope scope own)
    (hg : ∀ (s : Shared) (H : Hp) (C : Addr) (cl : List (PySem.Str × Addr)) (fp : List Addr), PG (X.blk s H scope (compEnvC scope cl C X.env) fp) tg g) (ht : ∀ (s : Shared) (H : Hp) (C : Addr) (cl : List (PySem.Str × Addr)) (fp : List Addr), PTs (X.blk s H scope (compEnvC scope cl C X.env) fp) ifs tt)
    (he : ∀ (s : Shared) (H : Hp) (C : Addr) (cl : List (PySem.Str × Addr)) (fp : List Addr), PE (X.blk s H scope (compEnvC scope cl C X.env) fp) elt te) (hs : ∀ x, foldedSetIterable iter X.env x = pure x := by intro _; rfl) :
    PE X (.SetComp elt [⟨tg, iter, ifs, 0⟩] scope pos) (tScS X.w wi g tt te (own.map (·.2))) := by
  refine ⟨fun pins s σ H Q I h => ?_⟩
  rw [PpSet.eval_SetComp]
  refine scS_core hc hN I hi ok hg ht he hs h fun D C s' m H' I' q hn f => ⟨m, hn, fun h'' sb => ?_⟩
  obtain ⟨f0, f1, f2, f3, f4, f5⟩ := f
  exact ⟨.ref D, H', I'.turned (t' := s'.toks) (fun b o hb e => (sb.2 b hb).trans e) f0 f1 f3 f4 f5, rfl, q⟩
end
/-- over a tuple that the block leaves as it is -/
theorem scS_tup {w : World} {K : PySem.W.Frag} {a : Addr} {xs : List V} {g : TG} {tt : TT} {te : TE} {vs : List Nat} {σ : L2.St} {H1 : Hp} {D : Addr} {Qd : Hp → Prop} (Pv : Nat → Hp → Prop) (h0 : Pv 0 (upd H1 D (SetSO w D []))) (hl : ∀ i H, i ≤ xs.length → Pv i H → SqT K H a xs)
    (hs : ∀ i x H, xs[i]? = some x → Pv i H → g x (wipe σ vs) H fun σ2 H2 => wipe σ2 vs = wipe σ vs ∧ tt σ2 H2 fun b H3 =>
      if b = true then te σ2 H3 fun y H4 => ∃ (c : Str) (L : List Str), y = .str c ∧ H4 D = some (SetSO w D L) ∧ (canon L).length + 1 < scanBound ∧ Pv (i + 1) (upd H4 D (SetSO w D (c :: L))) else Pv (i + 1) H3) (hd : ∀ H, Pv xs.length H → Qd H) :
    ∃ W : Nat → Nat → Hp → Prop, (∃ m, W 0 m (upd H1 D (SetSO w D []))) ∧ ∀ i m H, W i m H →
      ((Itt K a).stop i H ∧ Qd H) ∨ ((Itt K a).go i H ∧ ∃ Nx : Hp → Prop, (∀ H', Nx H' → ∃ m', m' < m ∧ W (i + 1) m' H') ∧ ∀ x H', (Itt K a).yld i H x H' → g x (wipe σ vs) H' fun σ2 H2 => wipe σ2 vs = wipe σ vs ∧ tt σ2 H2 fun b H3 =>
        if b = true then te σ2 H3 fun y H4 => ∃ (c : Str) (L : List Str), y = .str c ∧ H4 D = some (SetSO w D L) ∧ (canon L).length + 1 < scanBound ∧ Nx (upd H4 D (SetSO w D (c :: L))) else Nx H3) := by
  refine ⟨fun i m H => m = xs.length - i ∧ i ≤ xs.length ∧ Pv i H, ⟨xs.length, by simp, Nat.zero_le _, h0⟩, ?_⟩
  rintro i m H ⟨rfl, hi, p⟩
  have q := hl i H hi p
  by_cases hlt : i < xs.length
  · refine .inr ⟨⟨xs, xs[i], q, by simp [hlt]⟩, Pv (i + 1), fun H' p' => ⟨xs.length - (i + 1), by omega, rfl, hlt, p'⟩, fun x H' y => ?_⟩
    obtain ⟨e, y⟩ := y
    subst e
    exact hs i x _ (y xs q) p
  · have e : i = xs.length := by omega
    subst e
    exact .inl ⟨⟨xs, q, Nat.le_refl _⟩, hd H p⟩

section
variable {X : Cx}
/-- len(a), a a set of texts -/
def rLenS (w : World) : List V → Hp → VK → Prop := fun vs H Q => ∃ (a : Addr) (L : List Str), vs = [V.ref a] ∧ H a = some (SetSO w a L) ∧ Q (.int (canon L).length) H
end
end TX
set_option Elab.async false
set_option linter.all false
set_option maxRecDepth 100000
set_option maxHeartbeats 4000000
/-! len(a) of a set of texts; {.. for ..} over anything walked -/
namespace TX
open PySem PySem.Spec PyProof.Rows L2
section
variable {X : Cx}
theorem call_lenS : CallR X (.builtin "len") (rLenS X.w) := by
  intro pins s σ H xs us Q I r h
  obtain ⟨a, L, rfl, ha, q⟩ := h
  obtain ⟨u, rfl, r1⟩ := vals1 r
  obtain rfl : u = Value.ref a := r1
  obtain ⟨o, es, ep, t, ho, hx, hd, g, nd, hm, hb, hf, hn, hr, hl⟩ := setSO_get I ha
  have hs : scanBound ≤ 1000000 := by decide
  refine call_len_set ho hx hd hf (by omega) ⟨.int (canon L).length, H, I.tok _, ⟨_, by rw [hn]⟩, q⟩
end
theorem scS_it {w0 : World} {J : It} {n : Nat} {G : Hp → Prop} {Y : Nat → Hp → V → Hp → Prop} (w : Walk J n G Y) {g : TG} {tt : TT} {te : TE} {vs : List Nat} {σ : L2.St} {H1 : Hp} {D : Addr} {Qd : Hp → Prop} (Pv : Nat → Hp → Prop) (h0 : Pv 0 (upd H1 D (SetSO w0 D []))) (hG : ∀ i H, i ≤ n → Pv i H → G H)
    (hs : ∀ i x H H', i < n → Pv i H → Y i H x H' → g x (wipe σ vs) H' fun σ2 H2 => wipe σ2 vs = wipe σ vs ∧ tt σ2 H2 fun b H3 =>
      if b = true then te σ2 H3 fun y H4 => ∃ (c : Str) (L : List Str), y = .str c ∧ H4 D = some (SetSO w0 D L) ∧ (canon L).length + 1 < scanBound ∧ Pv (i + 1) (upd H4 D (SetSO w0 D (c :: L))) else Pv (i + 1) H3) (hd : ∀ H, Pv n H → Qd H) :
    ∃ W : Nat → Nat → Hp → Prop, (∃ m, W 0 m (upd H1 D (SetSO w0 D []))) ∧ ∀ i m H, W i m H →
      (J.stop i H ∧ Qd H) ∨ (J.go i H ∧ ∃ Nx : Hp → Prop, (∀ H', Nx H' → ∃ m', m' < m ∧ W (i + 1) m' H') ∧ ∀ x H', J.yld i H x H' → g x (wipe σ vs) H' fun σ2 H2 => wipe σ2 vs = wipe σ vs ∧ tt σ2 H2 fun b H3 =>
        if b = true then te σ2 H3 fun y H4 => ∃ (c : Str) (L : List Str), y = .str c ∧ H4 D = some (SetSO w0 D L) ∧ (canon L).length + 1 < scanBound ∧ Nx (upd H4 D (SetSO w0 D (c :: L))) else Nx H3) := by
  refine ⟨fun i m H => m = n - i ∧ i ≤ n ∧ Pv i H, ⟨n, by simp, Nat.zero_le _, h0⟩, ?_⟩
  rintro i m H ⟨rfl, hi, p⟩
  have q := hG i H hi p
  by_cases hlt : i < n
  · exact .inr ⟨w.goes i H hlt q, Pv (i + 1), fun H' p' => ⟨n - (i + 1), by omega, rfl, hlt, p'⟩, fun x H' y => hs i x H H' hlt p (w.yields i H x H' hlt q y)⟩
  · have e : i = n := by omega
    subst e
    exact .inl ⟨w.stops H q, hd H p⟩
end TX
set_option Elab.async false
set_option linter.all false
set_option maxRecDepth 100000
set_option maxHeartbeats 4000000
/-! comprehensions whose elements are data, the heap growing; zip of two tuples walked -/
namespace EX2
open PySem PySem.Spec PyProof.Rows L2
theorem walk_zipT {K : PySem.W.Frag} {a b : Addr} {xs ys : List V} {n : Nat} (hn : n = min xs.length ys.length) : Walk (RZ.ItzT K a b) n (fun H => SqT K H a xs ∧ SqT K H b ys) (YPair (fun i => xs[i]?) (fun i => ys[i]?)) := by
  subst hn
  refine ⟨fun i _ hi q => ?_, fun _ q => ⟨xs, ys, q.1, q.2, by omega⟩, fun i H v H' _ q y => ?_⟩
  · have h1 : i < xs.length := by omega
    have h2 : i < ys.length := by omega
    exact ⟨xs, ys, xs[i], ys[i], q.1, q.2, by simp [h1], by simp [h2]⟩
  · obtain ⟨T, x, y, h1, h2, h3, h4, h5⟩ := y
    exact ⟨T, x, y, h1, h2, h3, h4 xs q.1, h5 ys q.2⟩
section
variable {H : Hp} {p : Addr} {l : List V}
mutual
theorem dq_rmL' (hp : H p = some (.lst l)) : ∀ {x : V} {d : PyData}, Dq H x d → noL d = true → Dq (rm p H) x d
  | _, _, .non, _ => .non
  | _, _, .bl b, _ => .bl b
  | _, _, .int i, _ => .int i
  | _, _, .str x, _ => .str x
  | _, _, .lst q h, n => by cases n
  | _, _, .tup (a := a) q h, n => .tup (by rw [rm_ne (ne_of q hp (fun z => nomatch z))]; exact q) (dqAll_rmL' hp h n)
  | _, _, .dk q h, n => by cases n
theorem dqAll_rmL' (hp : H p = some (.lst l)) : ∀ {xs : List V} {ds : List PyData}, DqAll H xs ds → noLs ds = true → DqAll (rm p H) xs ds
  | _, _, .nil, _ => .nil
  | _, _, .cons h t, n => by
    simp only [noLs, Bool.and_eq_true] at n
    exact .cons (dq_rmL' hp h n.1) (dqAll_rmL' hp t n.2)
end
end
/-- data apart from what is new -/
theorem Dq.rmN {H : Hp} {D : Addr} {x : V} {d : PyData} (h : Dq H x d) (hD : H D = none) {H' : Hp} (e : Evl.Ex H H') : Dq (rm D H') x d := by
  refine Dq.ext (fun a o q => ?_) h
  have n : a ≠ D := by rintro rfl; rw [hD] at q; cases q
  rw [rm_ne n]
  exact e _ _ q
theorem DqAll.rmN {H : Hp} {D : Addr} {x : List V} {d : List PyData} (h : DqAll H x d) (hD : H D = none) {H' : Hp} (e : Evl.Ex H H') : DqAll (rm D H') x d := by
  refine DqAll.ext (fun a o q => ?_) h
  have n : a ≠ D := by rintro rfl; rw [hD] at q; cases q
  rw [rm_ne n]
  exact e _ _ q
section
variable {J : It} {n : Nat} {G : Hp → Prop} {Y : Nat → Hp → V → Hp → Prop}
/-- a comprehension whose j-th element is the data dat j -/
theorem lc_rm (w : Walk J n G Y) {g : TG} {te : TE} {vs : List Nat} {σ : L2.St} {H1 : Hp} {D : Addr} {Qd : Hp → Prop} (hD : H1 D = none) (hG : ∀ H', Evl.Ex H1 H' → G H') (dat : Nat → PyData) (hz : n ≤ 100000)
    (hY : ∀ j H2 x H3, j < n → Evl.Ex H1 H2 → Y j H2 x H3 → Evl.Ex H2 H3)
    (hs : ∀ j x H2 H3 acc, j < n → Evl.Ex H1 H2 → Evl.Ex H1 H3 → H3 D = some (.lst acc) → Y j H2 x H3 → ∀ Qt : V → Hp → Prop, (∀ y H4, Evl.Ex H3 H4 → Dq (rm D H4) y (dat j) → Qt y H4) → g x (wipe σ vs) H3 fun σ2 H4 => wipe σ2 vs = wipe σ vs ∧ te σ2 H4 Qt)
    (hd : ∀ H' xs, Evl.Ex H1 H' → H' D = some (.lst xs) → DqAll (rm D H') xs ((List.range n).map dat) → Qd H') :
    ∃ W : Nat → Nat → Hp → Prop, (∃ m, W 0 m (upd H1 D (.lst []))) ∧ ∀ i m H, W i m H →
      (J.stop i H ∧ Qd H) ∨ (J.go i H ∧ ∃ Nx : Hp → Prop, (∀ H', Nx H' → ∃ m', m' < m ∧ W (i + 1) m' H') ∧ ∀ x H', J.yld i H x H' → g x (wipe σ vs) H' fun σ2 H2 => wipe σ2 vs = wipe σ vs ∧ tYes σ2 H2 fun b H3 =>
        if b = true then te σ2 H3 fun y H4 => ∃ acc, H4 D = some (.lst acc) ∧ acc.length < sizeLine ∧ Nx (upd H4 D (.lst (acc ++ [y]))) else Nx H3) := by
  refine lc_it w (fun j H' => Evl.Ex H1 H' ∧ ∃ xs, H' D = some (.lst xs) ∧ DqAll (rm D H') xs ((List.range j).map dat)) ⟨Evl.Ex.new hD, [], upd_same, .nil⟩ (fun i H hi p => hG H p.1) ?_ (fun H ⟨e, xs, a, b⟩ => hd H xs e a b)
  rintro j x H2 H3 hj ⟨e, xs, hd2, hall⟩ hy
  have e3 := hY j H2 x H3 hj e hy
  have q := hs j x H2 H3 xs hj e (e.trans e3) (e3 _ _ hd2) hy (fun y H4 => ∃ acc, H4 D = some (.lst acc) ∧ acc.length < sizeLine ∧ (Evl.Ex H1 (upd H4 D (.lst (acc ++ [y]))) ∧ ∃ xs, (upd H4 D (.lst (acc ++ [y]))) D = some (.lst xs) ∧ DqAll (rm D (upd H4 D (.lst (acc ++ [y])))) xs ((List.range (j + 1)).map dat))) ?_
  · simp only [tYes, if_true]
    exact q
  · intro y H4 e4 hy4
    refine ⟨xs, e4 _ _ (e3 _ _ hd2), ?_, ((e.trans e3).trans e4).mut hD, xs ++ [y], upd_same, ?_⟩
    · rw [DqAll.length hall, List.length_map, List.length_range]
      exact Evl.sz_lt (by omega)
    · rw [rm_same, List.range_succ, List.map_append]
      exact DqAll.app (DqAll.ext (ex_rm (e3.trans e4)) hall) (.cons hy4 .nil)
end
theorem range_map_get {α β : Type} (xs : List α) (f : α → β) (g : Nat → β) (h : ∀ i x, xs[i]? = some x → g i = f x) : (List.range xs.length).map g = xs.map f := map_range_get xs f g h
/-- the j-th of mapped data -/
theorem getD_map {α : Type} (l : List α) (f : α → PyData) {j : Nat} {x : α} (h : l[j]? = some x) : (l.map f).getD j .none = f x := by
  rw [List.getD_eq_getElem?_getD, List.getElem?_map, h]
  rfl
theorem range_getD {ds : List PyData} : (List.range ds.length).map (fun j => ds.getD j .none) = ds := by
  have := map_range_get ds id (fun j => ds.getD j .none) fun i x e => by rw [List.getD_eq_getElem?_getD, e]; rfl
  rw [this, List.map_id]
theorem DqAll.mapGet {H : Hp} {α : Type} {f : α → PyData} {l : List α} {xs : List V} (h : DqAll H xs (l.map f)) {j : Nat} {x : V} (e : xs[j]? = some x) : ∃ a, l[j]? = some a ∧ Dq H x (f a) := by
  obtain ⟨d, hd, q⟩ := h.get e
  rw [List.getElem?_map] at hd
  cases z : l[j]? with
  | none => rw [z] at hd; cases hd
  | some a =>
    rw [z] at hd
    have : f a = d := Option.some.inj hd
    subst this
    exact ⟨a, rfl, q⟩
theorem DqAll.mapGetD {H : Hp} {α : Type} {f : α → PyData} {l : List α} {xs : List V} (h : DqAll H xs (l.map f)) {j : Nat} {a : α} (e : l[j]? = some a) : ∃ x, xs[j]? = some x ∧ Dq H x (f a) :=
  h.getD (by rw [List.getElem?_map, e]; rfl)
end EX2
set_option Elab.async false
set_option linter.all false
set_option maxRecDepth 100000
set_option maxHeartbeats 0
/-! names of classes; empty tuples of the written part -/
namespace EX2
open PySem PySem.Spec PyProof.Rows L2
/-- what is never reached -/
theorem pss_no {X : Cx} {b : List Stmt} : PSs X b (fun _ _ _ => False) := ⟨fun _ _ _ _ _ _ h => h.elim⟩
theorem ifT {b : Bool} {A B : Prop} (e : b = true) (h : A) : if b = true then A else B := by rw [if_pos e]; exact h
theorem ifF {b : Bool} {A B : Prop} (e : b = false) (h : B) : if b = true then A else B := by rw [if_neg]; exact h; rw [e]; exact Bool.false_ne_true
theorem pe_no {X : Cx} {e : Expr} : PE X e (fun _ _ _ => False) := ⟨fun _ _ _ _ _ _ h => h.elim⟩
/-- an empty tuple of the written part -/
def KT (K : PySem.W.Frag) (a : Addr) : Prop := ∃ (o : Obj) (its : Array Value) (n : Nat), K.lookup a = some o ∧ o.cls = .type "tuple" ∧ o.data = .seq its n ∧ its.size ≤ sizeLine ∧ Vals [] its.toList
theorem KT.sq {K : PySem.W.Frag} {a : Addr} (h : KT K a) {H : Hp} : SqT K H a [] := .inr h
theorem KT.ty {K : PySem.W.Frag} {a : Addr} (h : KT K a) {H : Hp} : TyX K H (.ref a) (.type "tuple") := by
  obtain ⟨o, its, n, h1, h2, _⟩ := h
  exact .kTuple h1 h2
end EX2
namespace K06
open PySem PySem.Spec PyProof.Rows L2 EX2 TX
def cnD : PyData → Bool
  | .str z => isNm z && !decide (z = ("top" : Str))
  | _ => false
section
variable {P : Program} {w : World} {K : PySem.W.Frag} {mg : Str → Option Value} {base : Heap} {f : Addr} {fd : FuncData}
theorem okis_name (F : FnP K "is_name" sName f fd) (D : Defs w K mg) : FnOk P w K mg base CX0 1 f fd ["value"] (spD nameD) := okD_name D F
abbrev sis_class_name : Stmt := top 33
abbrev nis_class_name : List Str := ["value"]
theorem scis_class_name : FnScope nis_class_name ["value"] (defScope sis_class_name) := ⟨rfl, rfl, rfl, by decide +kernel, rfl, by decide +kernel, by decide +kernel⟩
theorem okis_class_name (F : FnP K "is_class_name" sis_class_name f fd) (D : Defs w K mg) : FnOk P w K mg base CX0 2 f fd ["value"] (spD cnD) := by
  have T := D.t
  obtain ⟨tTop, gTop⟩ := D.topn
  obtain ⟨fis_name, fdis_name, gis_name, Fis_name⟩ := D.is_name
  have Gis_name := okis_name (P := P) (base := base) Fis_name D
  have bis_name : Binds K fdis_name ["value"] [] := Fis_name.bindsN fun _ _ _ _ _ _ us hl => match us, hl with | [_], _ => rfl
  refine F.ok scis_class_name (fun vs H Q E h => ?_) (fun cdv A outer s H vs Q E hr h => ?_)
  · obtain ⟨x, d, rfl, _⟩ := h
    rfl
  · obtain ⟨x, d, rfl, hx, hd, hQ⟩ := h
    refine ⟨_, PSs.nox (pss_one (ps_ret (pe_and (pe_call Gis_name (hr.mono (by decide)) rfl gis_name Fis_name.kp bis_name .nil pass0 (pa_cons (pv 0) pa_nil)) (pe_one (pe_cmpR op_ne (pv 0) (pe_glob rfl gTop (v := .str "top") ⟨tTop, rfl⟩) (nomark _)))))), ?_⟩
    refine ⟨_, rfl, _, d, rfl, hx, hd, fun H1 e1 => ?_⟩
    cases hx with
    | str z =>
      refine ⟨_, rfl, ?_⟩
      cases hz : isNm z with
      | false =>
        refine ifF (show nameD (.str z) = false from hz) ?_
        have q := hQ H1 e1
        rw [show cnD (.str z) = false from by show (isNm z && !decide (z = ("top" : Str))) = _; rw [hz]; rfl] at q
        exact q
      | true =>
        refine ifT (show nameD (.str z) = true from hz) ⟨_, rfl, rfl, ?_⟩
        have q := hQ H1 e1
        rw [show cnD (.str z) = !decide (z = ("top" : Str)) from by show (isNm z && !decide (z = ("top" : Str))) = _; rw [hz]; rfl] at q
        rw [show decide (V.str z = V.str "top") = decide (z = ("top" : Str)) from decide_eq_decide.mpr ⟨V.str.inj, fun e => by rw [e]⟩]
        exact q
    | _ => exact ⟨_, rfl, ifF rfl (hQ H1 e1)⟩
end
end K06

set_option Elab.async false
set_option linter.all false
set_option maxRecDepth 100000
set_option maxHeartbeats 0
/-! ClassText("x") -/
namespace K06
open PySem PySem.Spec PyProof.Rows L2 EX2 TX
theorem kit_list2 (d : PyData) {K : PySem.W.Frag} : PySem.W.kitAny K (.type (tyD d)) [.type "list", .type "tuple"] = some (isLstD d || isTupD d) := by
  refine kitAny_cons (kit_ty (kit_lstD d)) (fun h => kitAny_cons (kit_ty (kit_tupD d)) (fun h2 => by rw [h, h2]; exact kitAny_nil) (fun h2 => by rw [h, h2]; rfl)) (fun h => by rw [h]; rfl)
abbrev nseq : List Str := ["obj", "most"]
theorem scseq : FnScope nseq ["obj", "most"] (defScope ssequence) := ⟨rfl, rfl, rfl, by decide +kernel, rfl, by decide +kernel, by decide +kernel⟩
def cfields (n a mk fl me : V) : List (Str × V) := [("own_name", n), ("own_above", a), ("own_marks", mk), ("own_fields", fl), ("own_methods", me)]
def spSeqE (K : PySem.W.Frag) : Sp := fun vs H Q _ => ∃ (a : Addr) (m : Int), vs = [.ref a, .int m] ∧ KT K a ∧ 0 ≤ m ∧ ∀ H', Evl.Ex H H' → Q (.bl true) H'
def spE (K : PySem.W.Frag) : Sp := fun vs H Q _ => ∃ (a : Addr), vs = [.ref a] ∧ KT K a ∧ ∀ H', Evl.Ex H H' → Q (.bl true) H'
def zfields (z : Str) (mk fl me : Addr) : List (Str × V) := cfields (.str z) (.str "top") (.ref mk) (.ref fl) (.ref me)
def spInitZ (K : PySem.W.Frag) (CT : Addr) : Sp := fun vs H Q _ => ∃ (a dx : Addr) (z : Str) (mk fl me : Addr), vs = [.ref a, .str z, .str "top", .ref mk, .ref fl, .ref me] ∧ H a = some (.ins CT dx []) ∧ cnD (.str z) = true ∧ okD (.str z) = true ∧ KT K mk ∧ KT K fl ∧ KT K me ∧
  ∀ H' : Hp, (∀ b o, b ≠ a → H b = some o → H' b = some o) → H' a = some (.ins CT dx (zfields z mk fl me)) → Q .non H'
section
variable {P : Program} {w : World} {K : PySem.W.Frag} {mg : Str → Option Value} {base : Heap} {f : Addr} {fd : FuncData}
theorem okis_sequence (F : FnP K "is_sequence" ssequence f fd) (D : Defs w K mg) : FnOk P w K mg base CX0 1 f fd ["obj", "most"] (spSeqE K) := by
  have T := D.t
  refine F.ok scseq (fun vs H Q E h => ?_) (fun cdv A outer s H vs Q E hr h => ?_)
  · obtain ⟨x, m, rfl, _⟩ := h
    rfl
  · obtain ⟨a, m, rfl, hd, hm, hQ⟩ := h
    refine ⟨_, PSs.nox (pss_one (ps_ret (pe_and (pe_callB call_isiT rfl T.isi boot_isi (pa_cons (pv 0) (pa_cons (pe_tup (pa_cons (pe_bltn rfl T.lst boot_list (v := .ty "list") rfl) (pa_cons (pe_bltn rfl T.tup boot_tuple (v := .ty "tuple") rfl) pa_nil))) pa_nil))) (pe_one (pe_cmpR op_le (pe_callB call_len rfl T.len boot_len (pa_cons (pv 0) pa_nil)) (pv 1) (nomark _)))))), ?_⟩
    refine ⟨_, rfl, le_line (by simp), fun t1 h1 => ?_⟩
    have e1 := Evl.Ex.new (o := .tup [.ty "list", .ty "tuple"]) h1
    refine ⟨.ref a, t1, _, _, _, _, rfl, upd_same, .cons (.ty _) (.cons (.ty _) .nil), hd.ty, kit_list2 (.tuple []), _, rfl, iteT ⟨_, rfl, _, _, rfl, .inr ⟨_, hd.sq, rfl⟩, _, rfl, _, _, rfl, rfl, ?_⟩⟩
    have q' : Q (.bl (decide ((([] : List V).length : Int) ≤ m))) (upd H t1 (.tup [.ty "list", .ty "tuple"])) := by rw [decide_eq_true (show (([] : List V).length : Int) ≤ m from hm)]; exact hQ _ e1
    exact q'
abbrev sare_marks : Stmt := top 34
abbrev nare_marks : List Str := ["value", "mark"]
theorem scare_marks : FnScope nare_marks ["value"] (defScope sare_marks) := ⟨rfl, rfl, rfl, by decide +kernel, rfl, by decide +kernel, by decide +kernel⟩
theorem okare_marks (F : FnP K "are_marks" sare_marks f fd) (D : Defs w K mg) : FnOk P w K mg base CX0 3 f fd ["value"] (spE K) := by
  have T := D.t
  obtain ⟨t8, g8⟩ := D.parts8
  obtain ⟨fis_class_name, fdis_class_name, gis_class_name, Fis_class_name⟩ := D.is_class_name
  have Gis_class_name := okis_class_name (P := P) (base := base) Fis_class_name D
  have bis_class_name : Binds K fdis_class_name ["value"] [] := Fis_class_name.bindsN fun _ _ _ _ _ _ us hl => match us, hl with | [_], _ => rfl
  obtain ⟨fis_sequence, fdis_sequence, gis_sequence, Fis_sequence⟩ := D.is_sequence
  have Gis_sequence := okis_sequence (P := P) (base := base) Fis_sequence D
  have bis_sequence : Binds K fdis_sequence ["obj", "most"] [] := Fis_sequence.bindsN fun _ _ _ _ _ _ us hl => match us, hl with | [_, _], _ => rfl
  refine F.ok scare_marks (fun vs H Q E h => ?_) (fun cdv A outer s H vs Q E hr h => ?_)
  · obtain ⟨a, rfl, _⟩ := h
    rfl
  · obtain ⟨a, rfl, hd, hQ⟩ := h
    refine ⟨_, PSs.nox (pss_cons (ps_if (PW.pt (pw_or (pt_not (pt_val (pe_call Gis_sequence (hr.mono (by decide)) rfl gis_sequence Fis_sequence.kp bis_sequence .nil pass0 (pa_cons (pv 0) (pa_cons (pe_glob rfl g8 (v := .int 8) ⟨t8, rfl⟩) pa_nil))))) (pw_or1 (pt_not (pt_val (pe_callB (cr_all rfl) rfl T.all boot_all (pa_cons (pe_lc (own := [("mark", 1)]) (g := gName 1) (tt := tYes) rfl scare_marks.nd (pi_seqq (pv 0)) (blkOk_by (N := nare_marks) (sc := defScope sare_marks) (by decide +kernel)) (fun _ _ _ _ _ => (pg_name (i := 1) scare_marks.nd rfl (Or.inl rfl))) (fun _ _ _ _ _ => pts_nil) (fun _ _ _ _ _ => (pe_call Gis_class_name (hr.mono (by decide)) rfl gis_class_name Fis_class_name.kp bis_class_name .nil pass0 (pa_cons (pv 1) pa_nil)))) pa_nil)))))))
        (pss_one (ps_ret pe_bl))
        pss_nil)
      (pss_one (ps_ret (pe_cmpR op_eq (pe_callB call_lenS rfl T.len boot_len (pa_cons (pe_callTy (r := rSetS K w) (cr_setS rfl) rfl T.set boot_set (pa_cons (pv 0) pa_nil)) pa_nil)) (pe_callB call_len rfl T.len boot_len (pa_cons (pv 0) pa_nil)) (nomark _))))), ?_⟩
    refine ⟨_, rfl, a, 8, rfl, hd, by decide, fun H1 e1 => ⟨_, rfl, ?_⟩⟩
    refine ifF rfl ?_
    refine ⟨_, rfl, a, rfl, .inr ⟨⟨_, hd.sq⟩, fun L hL => ?_⟩⟩
    refine lc_map (walk_tup (K := K) (a := a) (xs := [])) hL (fun H' e => hd.sq) (fun _ => .bl true) (by decide) (fun j _ _ _ h => absurd h (Nat.not_lt_zero j)) (fun j _ _ _ h => absurd h (Nat.not_lt_zero j)) ?_
    intro H3 e3 hL3
    refine ⟨L, [], rfl, SqL.of hL3, ?_⟩
    refine ⟨_, rfl, iteF ?_⟩
    refine ⟨_, rfl, a, [], rfl, .inr hd.sq, by decide, fun p hp => ⟨p, [], rfl, upd_same, ?_⟩⟩
    refine ⟨_, rfl, _, _, rfl, .inr ⟨[], hd.sq, rfl⟩, rfl, ?_⟩
    exact hQ _ ((e1.trans e3).trans (Evl.Ex.new hp))
abbrev sare_fields : Stmt := top 36
abbrev nare_fields : List Str := ["value", "field", "name", "kind"]
theorem scare_fields : FnScope nare_fields ["value"] (defScope sare_fields) := ⟨rfl, rfl, rfl, by decide +kernel, rfl, by decide +kernel, by decide +kernel⟩
theorem okare_fields (F : FnP K "are_fields" sare_fields f fd) (D : Defs w K mg) : FnOk P w K mg base CX0 4 f fd ["value"] (spE K) := by
  have T := D.t
  obtain ⟨t8, g8⟩ := D.parts8
  obtain ⟨fis_sequence, fdis_sequence, gis_sequence, Fis_sequence⟩ := D.is_sequence
  have Gis_sequence := okis_sequence (P := P) (base := base) Fis_sequence D
  have bis_sequence : Binds K fdis_sequence ["obj", "most"] [] := Fis_sequence.bindsN fun _ _ _ _ _ _ us hl => match us, hl with | [_, _], _ => rfl
  refine F.ok scare_fields (fun vs H Q E h => ?_) (fun cdv A outer s H vs Q E hr h => ?_)
  · obtain ⟨a, rfl, _⟩ := h
    rfl
  · obtain ⟨a, rfl, hd, hQ⟩ := h
    refine ⟨_, PSs.nox (pss_cons (ps_if (PW.pt (pw_or (pt_not (pt_val (pe_call Gis_sequence (hr.mono (by decide)) rfl gis_sequence Fis_sequence.kp bis_sequence .nil pass0 (pa_cons (pv 0) (pa_cons (pe_glob rfl g8 (v := .int 8) ⟨t8, rfl⟩) pa_nil))))) (pw_or1 (pt_not (pt_val (pe_callB (cr_all rfl) rfl T.all boot_all (pa_cons (pe_lc (own := [("field", 1)]) (g := gName 1) (tt := tYes) rfl scare_fields.nd (pi_seqq (pv 0)) (blkOk_by (N := nare_fields) (sc := defScope sare_fields) (by decide +kernel)) (fun _ _ _ _ _ => (pg_name (i := 1) scare_fields.nd rfl (Or.inl rfl))) (fun _ _ _ _ _ => pts_nil) (fun _ _ _ _ _ => pe_no)) pa_nil)))))))
        (pss_one (ps_ret pe_bl))
        pss_nil)
      (pss_one (ps_ret (pe_cmpR op_eq (pe_callB call_lenS rfl T.len boot_len (pa_cons (pe_scS (own := [("name", 2), ("kind", 3)]) (g := gTup K 2 (gCons (gName 2) (gCons (gName 3) gNil))) rfl scare_fields.nd (pi_seqq (pv 0)) (blkOk_by (N := nare_fields) (sc := defScope sare_fields) (by decide +kernel)) (fun _ _ _ _ _ => pg_tup rfl (pgs_cons (pg_name (i := 2) scare_fields.nd rfl (Or.inl rfl)) (pgs_cons (pg_name (i := 3) scare_fields.nd rfl (Or.inl rfl)) pgs_nil))) (fun _ _ _ _ _ => pts_nil) (fun _ _ _ _ _ => pv 2)) pa_nil)) (pe_callB call_len rfl T.len boot_len (pa_cons (pv 0) pa_nil)) (nomark _))))), ?_⟩
    refine ⟨_, rfl, a, 8, rfl, hd, by decide, fun H1 e1 => ⟨_, rfl, ?_⟩⟩
    refine ifF rfl ?_
    refine ⟨_, rfl, a, rfl, .inr ⟨⟨_, hd.sq⟩, fun L hL => ?_⟩⟩
    refine lc_map (te := fun _ _ _ => False) (walk_tup (K := K) (a := a) (xs := [])) hL (fun H' e => hd.sq) (fun _ => .bl true) (by decide) (fun j _ _ _ h => absurd h (Nat.not_lt_zero j)) (fun j _ _ _ h => absurd h (Nat.not_lt_zero j)) ?_
    intro H3 e3 hL3
    refine ⟨L, [], rfl, SqL.of hL3, ?_⟩
    refine ⟨_, rfl, iteF ?_⟩
    refine ⟨_, rfl, a, rfl, .inr ⟨⟨_, hd.sq⟩, fun D hD => ?_⟩⟩
    refine scS_it (walk_tup (K := K) (a := a) (xs := [])) (fun i H' => H' = upd H3 D (SetSO w D [])) rfl (fun i H' _ q => hd.sq) (fun j _ _ _ h => absurd h (Nat.not_lt_zero j)) ?_
    rintro H4 rfl
    refine ⟨D, [], rfl, upd_same, ?_⟩
    refine ⟨_, rfl, _, _, rfl, .inr ⟨[], hd.sq, rfl⟩, rfl, ?_⟩
    exact hQ _ ((e1.trans e3).trans (Evl.Ex.new hD))
end
end K06

set_option Elab.async false
set_option linter.all false
set_option maxRecDepth 100000
set_option maxHeartbeats 0
/-! ClassText("x") made -/
namespace K06
open PySem PySem.Spec PyProof.Rows L2 EX2 TX
/-- the class: what __init__ asks -/
structure CtZ (K : PySem.W.Frag) : Prop where
  cl : Cls K (He.ga K "ClassText")
  n1 : NoAttr K (He.ga K "ClassText") "own_name"
  n2 : NoAttr K (He.ga K "ClassText") "own_above"
  n3 : NoAttr K (He.ga K "ClassText") "own_marks"
  n4 : NoAttr K (He.ga K "ClassText") "own_fields"
  n5 : NoAttr K (He.ga K "ClassText") "own_methods"
section
variable {P : Program} {w : World} {K : PySem.W.Frag} {mg : Str → Option Value} {base : Heap} {f : Addr} {fd : FuncData}
abbrev sare_methods : Stmt := top 37
abbrev nare_methods : List Str := ["value", "method"]
theorem scare_methods : FnScope nare_methods ["value"] (defScope sare_methods) := ⟨rfl, rfl, rfl, by decide +kernel, rfl, by decide +kernel, by decide +kernel⟩
theorem okare_methods (F : FnP K "are_methods" sare_methods f fd) (D : Defs w K mg) (hm : mg "Method" = some (.ref (He.ga K "Method"))) : FnOk P w K mg base CX0 3 f fd ["value"] (spE K) := by
  have T := D.t
  obtain ⟨t8, g8⟩ := D.parts8
  obtain ⟨fis_sequence, fdis_sequence, gis_sequence, Fis_sequence⟩ := D.is_sequence
  have Gis_sequence := okis_sequence (P := P) (base := base) Fis_sequence D
  have bis_sequence : Binds K fdis_sequence ["obj", "most"] [] := Fis_sequence.bindsN fun _ _ _ _ _ _ us hl => match us, hl with | [_, _], _ => rfl
  refine F.ok scare_methods (fun vs H Q E h => ?_) (fun cdv A outer s H vs Q E hr h => ?_)
  · obtain ⟨a, rfl, _⟩ := h
    rfl
  · obtain ⟨a, rfl, hd, hQ⟩ := h
    refine ⟨_, PSs.nox (pss_cons (ps_if (PW.pt (pw_or (pt_not (pt_val (pe_call Gis_sequence (hr.mono (by decide)) rfl gis_sequence Fis_sequence.kp bis_sequence .nil pass0 (pa_cons (pv 0) (pa_cons (pe_glob rfl g8 (v := .int 8) ⟨t8, rfl⟩) pa_nil))))) (pw_or1 (pt_not (pt_val (pe_callB (cr_all rfl) rfl T.all boot_all (pa_cons (pe_lc (own := [("method", 1)]) (g := gName 1) (tt := tYes) rfl scare_methods.nd (pi_seqq (pv 0)) (blkOk_by (N := nare_methods) (sc := defScope sare_methods) (by decide +kernel)) (fun _ _ _ _ _ => (pg_name (i := 1) scare_methods.nd rfl (Or.inl rfl))) (fun _ _ _ _ _ => pts_nil) (fun _ _ _ _ _ => (pe_callB (r := rIsi K) call_isi rfl T.isi boot_isi (pa_cons (pv 1) (pa_cons (pe_glob rfl hm (v := .ref (He.ga K "Method")) rfl) pa_nil))))) pa_nil)))))))
        (pss_one (ps_ret pe_bl))
        pss_nil)
      (pss_one (ps_ret (pe_cmpR op_eq (pe_callB call_lenS rfl T.len boot_len (pa_cons (pe_scS (own := [("method", 1)]) (g := gName 1) rfl scare_methods.nd (pi_seqq (pv 0)) (blkOk_by (N := nare_methods) (sc := defScope sare_methods) (by decide +kernel)) (fun _ _ _ _ _ => (pg_name (i := 1) scare_methods.nd rfl (Or.inl rfl))) (fun _ _ _ _ _ => pts_nil) (fun _ _ _ _ _ => pe_no)) pa_nil)) (pe_callB call_len rfl T.len boot_len (pa_cons (pv 0) pa_nil)) (nomark _))))), ?_⟩
    refine ⟨_, rfl, a, 8, rfl, hd, by decide, fun H1 e1 => ⟨_, rfl, ?_⟩⟩
    refine ifF rfl ?_
    refine ⟨_, rfl, a, rfl, .inr ⟨⟨_, hd.sq⟩, fun L hL => ?_⟩⟩
    refine lc_map (walk_tup (K := K) (a := a) (xs := [])) hL (fun H' e => hd.sq) (fun _ => .bl true) (by decide) (fun j _ _ _ h => absurd h (Nat.not_lt_zero j)) (fun j _ _ _ h => absurd h (Nat.not_lt_zero j)) ?_
    intro H3 e3 hL3
    refine ⟨L, [], rfl, SqL.of hL3, ?_⟩
    refine ⟨_, rfl, iteF ?_⟩
    refine ⟨_, rfl, a, rfl, .inr ⟨⟨_, hd.sq⟩, fun D hD => ?_⟩⟩
    refine scS_it (te := fun _ _ _ => False) (walk_tup (K := K) (a := a) (xs := [])) (fun i H' => H' = upd H3 D (SetSO w D [])) rfl (fun i H' _ q => hd.sq) (fun j _ _ _ h => absurd h (Nat.not_lt_zero j)) ?_
    rintro H4 rfl
    refine ⟨D, [], rfl, upd_same, ?_⟩
    refine ⟨_, rfl, _, _, rfl, .inr ⟨[], hd.sq, rfl⟩, rfl, ?_⟩
    exact hQ _ ((e1.trans e3).trans (Evl.Ex.new hD))
abbrev sClassText___init__ : Stmt := inClass (top 38) 0
abbrev nClassText___init__ : List Str := ["self", "name", "above", "marks", "fields", "methods"]
theorem scClassText___init__ : FnScope nClassText___init__ ["self", "name", "above", "marks", "fields", "methods"] (defScope sClassText___init__) := ⟨rfl, rfl, rfl, by decide +kernel, rfl, by decide +kernel, by decide +kernel⟩
theorem okClassText___init__ (F : FunD K "__init__" "ClassText.__init__" (defArgs sClassText___init__) (defBody sClassText___init__) (defScope sClassText___init__) [] [("above", .str "top"), ("marks", .ref (kdAt "marks" K)), ("fields", .ref (kdAt "fields" K)), ("methods", .ref (kdAt "methods" K))] f fd) (D : Defs w K mg) (hm : mg "Method" = some (.ref (He.ga K "Method"))) (C : CtZ K) : FnOk P w K mg base CX0 6 f fd ["self", "name", "above", "marks", "fields", "methods"] (spInitZ K (He.ga K "ClassText")) := by
  have T := D.t
  obtain ⟨fis_class_name, fdis_class_name, gis_class_name, Fis_class_name⟩ := D.is_class_name
  have Gis_class_name := okis_class_name (P := P) (base := base) Fis_class_name D
  have bis_class_name : Binds K fdis_class_name ["value"] [] := Fis_class_name.bindsN fun _ _ _ _ _ _ us hl => match us, hl with | [_], _ => rfl
  obtain ⟨fis_name, fdis_name, gis_name, Fis_name⟩ := D.is_name
  have Gis_name := okis_name (P := P) (base := base) Fis_name D
  have bis_name : Binds K fdis_name ["value"] [] := Fis_name.bindsN fun _ _ _ _ _ _ us hl => match us, hl with | [_], _ => rfl
  obtain ⟨fare_marks, fdare_marks, gare_marks, Fare_marks⟩ := D.are_marks
  have Gare_marks := okare_marks (P := P) (base := base) Fare_marks D
  have bare_marks : Binds K fdare_marks ["value"] [] := Fare_marks.bindsN fun _ _ _ _ _ _ us hl => match us, hl with | [_], _ => rfl
  obtain ⟨fare_fields, fdare_fields, gare_fields, Fare_fields⟩ := D.are_fields
  have Gare_fields := okare_fields (P := P) (base := base) Fare_fields D
  have bare_fields : Binds K fdare_fields ["value"] [] := Fare_fields.bindsN fun _ _ _ _ _ _ us hl => match us, hl with | [_], _ => rfl
  obtain ⟨fare_methods, fdare_methods, gare_methods, Fare_methods⟩ := D.are_methods
  have Gare_methods := okare_methods (P := P) (base := base) Fare_methods D
  have bare_methods : Binds K fdare_methods ["value"] [] := Fare_methods.bindsN fun _ _ _ _ _ _ us hl => match us, hl with | [_], _ => rfl
  refine F.ok scClassText___init__ (fun vs H Q E h => ?_) (fun cdv A outer s H vs Q E hr h => ?_)
  · obtain ⟨a, dx, z, mk, fl, me, rfl, _⟩ := h
    rfl
  · obtain ⟨a, dx, z, mk, fl, me, rfl, ha, hz, ho, hmk, hfl, hme, hQ⟩ := h
    refine ⟨_, PSs.nox (pss_cons (ps_if (pt_not (pt_val (pe_call Gis_class_name (hr.mono (by decide)) rfl gis_class_name Fis_class_name.kp bis_class_name .nil pass0 (pa_cons (pv 1) pa_nil))))
        pss_no
        pss_nil)
      (pss_cons (ps_if (pt_not (pt_val (pe_call Gis_name (hr.mono (by decide)) rfl gis_name Fis_name.kp bis_name .nil pass0 (pa_cons (pv 2) pa_nil))))
        pss_no
        pss_nil)
      (pss_cons (ps_if (pt_not (pt_val (pe_call Gare_marks (hr.mono (by decide)) rfl gare_marks Fare_marks.kp bare_marks .nil pass0 (pa_cons (pv 3) pa_nil))))
        pss_no
        pss_nil)
      (pss_cons (ps_if (pt_not (pt_val (pe_call Gare_fields (hr.mono (by decide)) rfl gare_fields Fare_fields.kp bare_fields .nil pass0 (pa_cons (pv 4) pa_nil))))
        pss_no
        pss_nil)
      (pss_cons (ps_if (pt_not (pt_val (pe_call (Gare_methods hm) (hr.mono (by decide)) rfl gare_methods Fare_methods.kp bare_methods .nil pass0 (pa_cons (pv 5) pa_nil))))
        pss_no
        pss_nil)
      (pss_cons (ps_asg (pe_tup (pa_cons (pv 1) (pa_cons (pv 2) (pa_cons (pe_callTy call_tuple_of rfl T.tup boot_tuple (pa_cons (pv 3) pa_nil)) pa_nil)))) (pg_tup rfl (pgs_cons (pg_fld (pv 0)) (pgs_cons (pg_fld (pv 0)) (pgs_cons (pg_fld (pv 0)) pgs_nil)))) (hw := no_swap3 rfl))
      (pss_one (ps_asg (pe_tup (pa_cons (pe_callTy call_tuple_of rfl T.tup boot_tuple (pa_cons (pv 4) pa_nil)) (pa_cons (pe_callTy call_tuple_of rfl T.tup boot_tuple (pa_cons (pv 5) pa_nil)) pa_nil))) (pg_tup rfl (pgs_cons (pg_fld (pv 0)) (pgs_cons (pg_fld (pv 0)) pgs_nil))) (hw := no_swap rfl))))))))), ?_⟩
    refine ⟨_, rfl, _, _, rfl, .str z, ho, fun H1 e1 => ⟨_, rfl, ifF (by rw [hz]; rfl) ?_⟩⟩
    refine ⟨_, rfl, _, _, rfl, .str "top", by decide +kernel, fun H2 e2 => ⟨_, rfl, ?_⟩⟩
    refine ifF (by decide +kernel) ?_
    have e12 := e1.trans e2
    refine ⟨_, rfl, mk, rfl, hmk, fun H3 e3 => ⟨_, rfl, iteF ?_⟩⟩
    have e13 := e12.trans e3
    refine ⟨_, rfl, fl, rfl, hfl, fun H4 e4 => ⟨_, rfl, iteF ?_⟩⟩
    have e14 := e13.trans e4
    refine ⟨_, rfl, me, rfl, hme, fun H5 e5 => ⟨_, rfl, iteF ?_⟩⟩
    have e15 := e14.trans e5
    refine ⟨_, rfl, _, rfl, _, rfl, mk, [], rfl, .inr ⟨hmk.sq, le_line (by simp), fun t1 ht1 => ?_⟩⟩
    have e7 := Evl.Ex.new (o := .tup [.str z, .str "top", .ref mk]) ht1
    have e07 := e15.trans e7
    have ha7 := e07 _ _ ha
    refine ⟨t1, _, rfl, SqT.of upd_same, rfl, _, _, rfl, ?_⟩
    generalize upd H5 t1 (.tup [.str z, .str "top", .ref mk]) = H7 at e07 ha7
    clear e7 ht1 e15 e14 e13 e12
    refine ⟨_, rfl, a, _, dx, [], rfl, ha7, C.cl, C.n1, by decide, _, _, rfl, ?_⟩
    refine ⟨_, rfl, a, _, dx, [("own_name", .str z)], rfl, upd_same, C.cl, C.n2, by simp, _, _, rfl, ?_⟩
    refine ⟨_, rfl, a, _, dx, [("own_name", .str z), ("own_above", .str "top")], rfl, upd_same, C.cl, C.n3, by simp, rfl, ?_⟩
    have k9 : ∀ b o, b ≠ a → H7 b = some o → (upd (upd (upd H7 a (.ins (He.ga K "ClassText") dx (putF "own_name" (.str z) []))) a (.ins (He.ga K "ClassText") dx (putF "own_above" (.str "top") [("own_name", .str z)]))) a (.ins (He.ga K "ClassText") dx (putF "own_marks" (.ref mk) [("own_name", .str z), ("own_above", .str "top")]))) b = some o := fun b o hb e => by
      rw [upd_ne hb, upd_ne hb, upd_ne hb]; exact e
    have ha9 := upd_same (H := upd (upd H7 a (.ins (He.ga K "ClassText") dx (putF "own_name" (.str z) []))) a (.ins (He.ga K "ClassText") dx (putF "own_above" (.str "top") [("own_name", .str z)]))) (a := a) (o := .ins (He.ga K "ClassText") dx (putF "own_marks" (.ref mk) [("own_name", .str z), ("own_above", .str "top")]))
    generalize (upd (upd (upd H7 a (.ins (He.ga K "ClassText") dx (putF "own_name" (.str z) []))) a (.ins (He.ga K "ClassText") dx (putF "own_above" (.str "top") [("own_name", .str z)]))) a (.ins (He.ga K "ClassText") dx (putF "own_marks" (.ref mk) [("own_name", .str z), ("own_above", .str "top")]))) = H9 at k9 ha9
    refine ⟨_, rfl, fl, [], rfl, .inr ⟨hfl.sq, ?_⟩⟩
    refine ⟨_, rfl, me, [], rfl, .inr ⟨hme.sq, le_line (by simp), fun t2 ht2 => ?_⟩⟩
    have e12 : ∀ o, Evl.Ex H9 (upd H9 t2 o) := fun o => Evl.Ex.new ht2
    refine ⟨t2, _, rfl, SqT.of upd_same, rfl, _, _, rfl, ?_⟩
    refine ⟨_, rfl, a, _, dx, [("own_name", .str z), ("own_above", .str "top"), ("own_marks", .ref mk)], rfl, e12 _ _ _ ha9, C.cl, C.n4, by simp, _, _, rfl, ?_⟩
    refine ⟨_, rfl, a, _, dx, [("own_name", .str z), ("own_above", .str "top"), ("own_marks", .ref mk), ("own_fields", .ref fl)], rfl, upd_same, C.cl, C.n5, by simp, rfl, ?_⟩
    exact hQ _ (fun b o hb e => (upd_ne hb).trans ((upd_ne hb).trans (e12 _ _ _ (k9 b o hb (e07 _ _ e))))) upd_same
end
end K06

set_option Elab.async false
set_option linter.all false
set_option maxRecDepth 100000
set_option maxHeartbeats 0
/-! Tables made -/
namespace K06
open PySem PySem.Spec PyProof.Rows L2 EX2 TX
structure TbC (K : PySem.W.Frag) : Prop where
  cl : Cls K (He.ga K "Tables")
  n1 : NoAttr K (He.ga K "Tables") "texts"
  n2 : NoAttr K (He.ga K "Tables") "asked"
  n3 : NoAttr K (He.ga K "Tables") "rests"
def tfields (D1 D2 D3 : Addr) : List (Str × V) := [("texts", .ref D1), ("asked", .ref D2), ("rests", .ref D3)]
def spTInit (C : Addr) : Sp := fun vs H Q _ => ∃ (a dx : Addr), vs = [.ref a] ∧ H a = some (.ins C dx []) ∧
  ∀ (D1 D2 D3 : Addr) (H' : Hp), H' a = some (.ins C dx (tfields D1 D2 D3)) → H' D1 = some (.dK []) → H' D2 = some (.dK []) → H' D3 = some (.dK []) → H D1 = none → H D2 = none → H D3 = none → D1 ≠ D2 → D1 ≠ D3 → D2 ≠ D3 →
    (∀ b o, b ≠ a → H b = some o → H' b = some o) → Q .non H'
section
variable {P : Program} {w : World} {K : PySem.W.Frag} {mg : Str → Option Value} {base : Heap} {f : Addr} {fd : FuncData}
abbrev sTables___init__ : Stmt := inClass (top 41) 2
abbrev nTables___init__ : List Str := ["self"]
theorem scTables___init__ : FnScope nTables___init__ ["self"] (defScope sTables___init__) := ⟨rfl, rfl, rfl, by decide +kernel, rfl, by decide +kernel, by decide +kernel⟩
theorem okTables___init__ (F : FunD K "__init__" "Tables.__init__" (defArgs sTables___init__) (defBody sTables___init__) (defScope sTables___init__) [] [] f fd) (D : Defs w K mg) (C : TbC K) : FnOk P w K mg base CX0 1 f fd ["self"] (spTInit (He.ga K "Tables")) := by
  have T := D.t
  refine F.ok scTables___init__ (fun vs H Q E h => ?_) (fun cdv A outer s H vs Q E hr h => ?_)
  · obtain ⟨a, dx, rfl, _⟩ := h
    rfl
  · obtain ⟨a, dx, rfl, ha, hQ⟩ := h
    refine ⟨_, PSs.nox (pss_cons (ps_asg pe_dnewK (pg_fld (pv 0)))
      (pss_cons (ps_asg pe_dnewK (pg_fld (pv 0)))
      (pss_one (ps_asg pe_dnewK (pg_fld (pv 0)))))), ?_⟩
    refine fun D1 h1 => ?_
    have n1 : a ≠ D1 := fun e => by rw [← e, ha] at h1; cases h1
    refine ⟨_, rfl, a, _, dx, [], rfl, (upd_ne n1).trans ha, C.cl, C.n1, by decide, fun D2 h2 => ?_⟩
    have n2 : D2 ≠ a := fun e => by rw [e, upd_same] at h2; cases h2
    rw [upd_ne n2] at h2
    have n21 : D2 ≠ D1 := fun e => by rw [e, upd_same] at h2; cases h2
    rw [upd_ne n21] at h2
    refine ⟨_, rfl, a, _, dx, [("texts", .ref D1)], rfl, (upd_ne (Ne.symm n2)).trans upd_same, C.cl, C.n2, by simp, fun D3 h3 => ?_⟩
    have n3 : D3 ≠ a := fun e => by rw [e, upd_same] at h3; cases h3
    rw [upd_ne n3] at h3
    have n32 : D3 ≠ D2 := fun e => by rw [e, upd_same] at h3; cases h3
    rw [upd_ne n32, upd_ne n3] at h3
    have n31 : D3 ≠ D1 := fun e => by rw [e, upd_same] at h3; cases h3
    rw [upd_ne n31] at h3
    refine ⟨_, rfl, a, _, dx, [("texts", .ref D1), ("asked", .ref D2)], rfl, (upd_ne (Ne.symm n3)).trans upd_same, C.cl, C.n3, by simp, ?_⟩
    refine hQ D1 D2 D3 _ upd_same ?_ ?_ ?_ h1 h2 h3 (Ne.symm n21) (Ne.symm n31) (Ne.symm n32) fun b o hb e => ?_
    · rw [upd_ne (Ne.symm n1), upd_ne (Ne.symm n31), upd_ne (Ne.symm n1), upd_ne (Ne.symm n21), upd_ne (Ne.symm n1), upd_same]
    · rw [upd_ne n2, upd_ne (Ne.symm n32), upd_ne n2, upd_same]
    · rw [upd_ne n3, upd_same]
    · have b1 : b ≠ D1 := fun z => by rw [z, h1] at e; cases e
      have b2 : b ≠ D2 := fun z => by rw [z, h2] at e; cases e
      have b3 : b ≠ D3 := fun z => by rw [z, h3] at e; cases e
      rw [upd_ne hb, upd_ne b3, upd_ne hb, upd_ne b2, upd_ne hb, upd_ne b1]
      exact e
end
end K06

set_option Elab.async false
set_option linter.all false
set_option maxRecDepth 100000
set_option maxHeartbeats 4000000
/-! a def's code object known; the end of a law with tables of code objects, where no repr runs around -/
namespace EX2
open PySem PySem.Spec PyProof.Rows L2 LamX
section
variable {P : Program} {w : World} {K : PySem.W.Frag} {mg : Str → Option Value} {base : Heap}
/-- the code of the def at f -/
def CodeAt (K : PySem.W.Frag) (f : Addr) (cdv : Value) : Prop := ∃ (oc : Value) (od : Option Addr) (fd : FuncData) (osl : Array (Option Value)), K.lookup f = some ⟨oc, od, .func fd, osl⟩ ∧ fd.code = cdv
theorem code_of {h : Heap} (X : K.In h) (G : h.Ns mainGlobals mg) {x : Str} {f c T : Addr} {cdv : Value} (hf : mg x = some (.ref f)) (ht : PySem.W.tabIn K x = some (c, T)) (lk : CodeAt K f cdv) : cdv = .ref c := by
  obtain ⟨oc, od, fd, osl, lk, rfl⟩ := lk
  unfold PySem.W.tabIn at ht
  split at ht
  · rename_i f2 h2
    have e1 := PySem.W.mg_of X G h2
    rw [hf] at e1
    cases e1
    split at ht
    · rename_i hfo
      rw [lk] at hfo
      cases hfo
      split at ht
      · rename_i c2 hc
        rw [hc]
        split at ht
        · split at ht
          · cases ht; rfl
          · cases ht
        · cases ht
      · cases ht
    · cases ht
  · cases ht
/-- THE RULE for a def, its code told -/
theorem okGC {x qual : Str} {params : Arguments} {body : List Stmt} {scope : Scope} {dvs : List V} {kws : List (Str × V)} {f : Addr} {fd : FuncData} {N ps : List Str} {k : Nat} {sp : Sp} (F : FunD K x qual params body scope dvs kws f fd) (S : FnScope N ps scope) (len : ∀ vs H Q E, sp vs H Q E → vs.length = ps.length)
    (hbody : ∀ (cdv : Value) (A : Around) (outer : List Env) (s : Shared) (H : Hp) (vs : List V) (Q : VK) (E : XK), CodeAt K f cdv → A.guards = some [] → Room k (A.deeper (envOfC qual scope s.heap.objs.size f cdv)) → sp vs H Q E →
      ∃ t, PSs (cxOf CX0 P w K mg base N qual scope f cdv A outer s H E) body t ∧ t { nx := fun _ H' => Q .non H', rt := Q } (start N vs) H) : FnOkG P w K mg base (k + 1) f fd ps sp := by
  refine ⟨len, fun A outer s H args us vs Q E hg hr e0 hb r hsp => ?_⟩
  obtain ⟨oc, od, dV, kV, doc, pm, an, cdv, ct, osl, rfl, lk, hcd, _, _⟩ := F.ex
  have hl := len _ _ _ _ hsp
  have KX : K.In s.heap := e0.mod.kin.keeps fun b o e => (e0.bs b o e).1
  have lim : s.heap.NoLimit := e0.mod.nolimit.keeps fun b o e => (e0.bs b o e).1
  have hkind : ∀ y ∈ ps.zip us, scope.names.lookup y.1 = some .local ∨ (scope.names.lookup y.1 = some .cell ∧ ((cellsFrom (s.heap.objs.size + 1) scope.names []).lookup y.1).isSome = true) := fun ⟨n, v⟩ hy => by
    rcases S.par n (List.of_mem_zip hy).1 with q | q
    · exact .inl q
    · exact .inr ⟨q, PySem.W.cellsFrom_some _ _ _ (.inl q)⟩
  refine codeAny_call_function hr.depth (KX _ _ lk) rfl S.co S.gen rfl (PySem.W.codeRec_of KX hcd) (hb _ _ _ _ ?_)
  refine wpAny_newFunctionEnv_cells S.kind hkind fun env he s1 x => ?_
  subst he
  refine ⟨lim.keeps x.toInCall.keep, codeAny_func ?_⟩
  obtain ⟨t, ht, hq⟩ := hbody cdv A outer s H vs Q E ⟨_, _, _, _, lk, rfl⟩ hg (hr.deeper _) hsp
  have I : Inv (cxOf CX0 P w K mg base N qual scope f cdv A outer s H E) [] (start N vs) H s1 := inv_start S hr.hd e0 hl r x
  refine wpAny_mono (ht.run [] s1 (start N vs) H _ I hq) (fun fl s' hs => ?_) fun e s' hs => hs
  have fin : ∀ {σ' : L2.St} {H' : Hp} {v : V} {u : Value}, Inv (cxOf CX0 P w K mg base N qual scope f cdv A outer s H E) [] σ' H' s' → RelV v u → Q v H' → CE outer P w H s Q u s' :=
    fun {σ' H' v u} J rv q => ⟨v, H', J.os, J.bare, J.base, J.hok, rv, q⟩
  cases fl with
  | ret u =>
    obtain ⟨v, σ', H', J, rv, q⟩ := hs
    exact fin J rv q
  | next =>
    obtain ⟨σ', H', J, q⟩ := hs
    exact fin (v := V.non) (u := Value.none) J rfl q
  | brk =>
    obtain ⟨_, _, _, q⟩ := hs
    exact False.elim q
  | cont =>
    obtain ⟨_, _, _, q⟩ := hs
    exact False.elim q
end
section
variable {P : Program} {w : World} {K : PySem.W.Frag} {mg mb : Str → Option Value} {k : Nat} {fa a cC cT : Addr} {fd : FuncData} {x : Str} {sp : Sp} {s₁ : Shared} {vs : List Value} {ns : List Int}
/-- the law called; the table at cT (of the code object cC) is empty, and may grow -/
theorem law_coreGT (KX : K.In s₁.heap) (hns : s₁.heap.Ns mainGlobals mg) (hb : s₁.heap.Ns builtinsNs mb) (hbb : ∀ x : Str, x ≠ "__name__" → mb x = bootBuiltins x) (hlim : s₁.heap.NoLimit) (hg : s₁.gens = #[])
    (hT : s₁.heap.get? cT = some { cls := .none, data := .fields #[] }) (nT : K.lookup cT = none) (C : PySem.W.CodeHd s₁.heap cC cT)
    (hbm : ∃ (bm : Addr) (ob : Obj), mg "__builtins__" = some (.ref bm) ∧ bm ≠ builtinsNs ∧ s₁.heap.get? bm = some ob ∧ ob.cls = .type "module" ∧ ob.dict = some builtinsNs ∧ ob.data = .plain)
    (ha : s₁.heap.get? a = some { cls := .type "list", data := .seq vs.toArray }) (hr : Room k callerA)
    (F : ∀ base : Heap, K.In base → base.Ns mainGlobals mg → TabB base mg cC cT → FnOkG P w K mg base k fa fd [x] sp) (hbind : ∀ (s : Shared) (u : Value), BindsTo s fd ⟨[u], []⟩ [(x, u)])
    (hsp : ∀ H : Hp, H cT = some (.tbl #[]) → SqL K H a (ns.map V.int) → sp [.ref a] H (fun v _ => v = .bl true) fun _ _ _ => False)
    (H : Hp) (hH : H cT = some (.tbl #[])) (hO : ∀ b, b ≠ cT → H b = none ∨ ∃ o xs, H b = some (.frz o (.lst xs))) (hS : SqL K H a (ns.map V.int)) (hok : HOk P w H s₁.heap) (hA : ∀ b, H b ≠ none → b = a ∨ b = cT) (hK : H a ≠ none → K.lookup a = none) :
    codeAny (model P w) callerA (.call (.ref fa) ⟨[.ref a], []⟩) (fun r s' => r = .ok (.ret (.bool true)) ∧ OldK s₁.heap s'.heap ∧ s'.os = s₁.os ∧ AllBare s'.gens) s₁ := by
  have free : ∀ {b : Addr} {o : Obj}, s₁.heap.get? b = some o → (∀ vs n, o.data ≠ .seq vs n) → o.data ≠ .fields #[] → H b = none := fun {b o} e d d2 => Classical.byContradiction fun z => by
    rcases hA b z with q | q
    · rw [q, ha] at e; cases e; exact d _ _ rfl
    · rw [q, hT] at e; cases e; exact d2 rfl
  have names : ∀ {b : Addr} {m : Str → Option Value}, s₁.heap.Ns b m → (hidT s₁.heap H).Ns b m := fun {b m} ⟨o, es, ep, e, d, r⟩ => ⟨o, es, ep, hidT_get e (free e (fun vs n q => by rw [d] at q; cases q) fun q => by rw [d] at q; cases q), d, r⟩
  have kin : K.In (hidT s₁.heap H) := fun b o e => hidT_get (KX b o e) (Classical.byContradiction fun z => by
    rcases hA b z with q | q
    · rw [q] at e z; rw [hK z] at e; cases e
    · rw [q, nT] at e; cases e)
  have M : Mod K mg (hidT s₁.heap H) := ⟨kin, names hns, ⟨mb, names hb, hbb⟩, let ⟨mc, h1, h2⟩ := hlim; ⟨mc, names h1, h2⟩⟩
  have TB : TabB (hidT s₁.heap H) mg cC cT := by
    refine ⟨?_, ?_, fun z => ?_⟩
    · obtain ⟨o, us, file, tf, flags, tg, inF, text, tt, e1, r1, r2, r3, r⟩ := C
      refine ⟨o, us, file, tf, flags, tg, inF, text, tt, hidT_get e1 (free e1 (fun vs n q => by rw [r2] at q; cases q) fun q => ?_), r1, r2, r3, r⟩
      rw [r2] at q
      cases q
      simp at r3
    · obtain ⟨bm, ob, b1, b2, b3, b4, b5, b6⟩ := hbm
      refine ⟨bm, ob, b1, b2, fun q => ?_, fun q => ?_, hidT_get b3 (free b3 (fun vs n q => by rw [b6] at q; cases q) fun q => by rw [b6] at q; cases q), b4, b5, b6⟩
      · obtain ⟨o, es, ep, e, hd, _⟩ := hns
        rw [q, e] at b3
        cases b3
        rw [hd] at b6
        cases b6
      · rw [q, hT] at b3
        cases b3
        cases b6
    · obtain ⟨o, es, ep, e, hd, _⟩ := hns
      rw [z, hT] at e
      cases e
      cases hd
  have e0 : Env0 P w K mg (hidT s₁.heap H) callerA [] s₁ H := ⟨rfl, M, fun b o e => of_hidT e, Nat.le_of_eq (hidT_size _ _), trivial, fun b hb => absurd (show b ∈ ([] : List Addr) from hb) (by simp), hok, .of_eq hg⟩
  refine codeAny_mono ((F _ kin (names hns) TB).run callerA [] s₁ H ⟨[.ref a], []⟩ [.ref a] [.ref a] _ _ rfl hr e0 (hbind s₁ (.ref a)) (.cons rfl .nil) (hsp H hH hS)) fun r s' h => ?_
  match r, h with
  | .error e, h => exact False.elim h
  | .ok (.ret u), h =>
    obtain ⟨v, H', os, bare, un, hok', r', q⟩ := h
    obtain rfl : v = .bl true := q
    obtain rfl : u = Value.bool true := r'
    have key : ∀ b o, b ≠ cT → s₁.heap.get? b = some o → s'.heap.get? b = some o := fun b o nb e => by
      rcases hO b nb with z | ⟨ob, xs, z⟩
      · exact un.keep b o e z (fun z => absurd (show b ∈ ([] : List Addr) from z) (by simp)) (by simp)
      · obtain ⟨e1, _⟩ := hok b _ z
        obtain ⟨e2, _⟩ := hok' b _ (un.frzs b ob _ z)
        rw [e] at e1
        cases e1
        exact e2
    obtain ⟨more, zm⟩ := un.tbls cT #[] hH
    have hm : s'.heap.get? cT = some { cls := .none, data := .fields (#[] ++ more) } := hok' cT _ zm
    refine ⟨rfl, ⟨fun b o e => ?_, fun b o e => ?_⟩, os, bare⟩
    · by_cases hb : b = cT
      · rw [hb] at e ⊢
        rw [hT] at e
        cases e
        exact .inr (.inl ⟨(C.tab hT).isCodeTable, rfl, #[], more, rfl, hm⟩)
      · exact .inl (key b o hb e)
    · by_cases hb : b = cT
      · rw [hb]
        exact ⟨_, hm⟩
      · exact ⟨o, key b o hb e⟩
theorem law_callGT (KX : K.In s₁.heap) (hns : s₁.heap.Ns mainGlobals mg) (hb : s₁.heap.Ns builtinsNs mb) (hbb : ∀ x : Str, x ≠ "__name__" → mb x = bootBuiltins x) (hlim : s₁.heap.NoLimit) (hg : s₁.gens = #[])
    (hT : s₁.heap.get? cT = some { cls := .none, data := .fields #[] }) (nT : K.lookup cT = none) (C : PySem.W.CodeHd s₁.heap cC cT)
    (hbm : ∃ (bm : Addr) (ob : Obj), mg "__builtins__" = some (.ref bm) ∧ bm ≠ builtinsNs ∧ s₁.heap.get? bm = some ob ∧ ob.cls = .type "module" ∧ ob.dict = some builtinsNs ∧ ob.data = .plain)
    (ha : s₁.heap.get? a = some { cls := .type "list", data := .seq vs.toArray }) (hi : IntsAre vs ns) (hl : ns.length ≤ sizeLine) (hr : Room k callerA)
    (F : ∀ base : Heap, K.In base → base.Ns mainGlobals mg → TabB base mg cC cT → FnOkG P w K mg base k fa fd [x] sp) (hbind : ∀ (s : Shared) (u : Value), BindsTo s fd ⟨[u], []⟩ [(x, u)])
    (hsp : ∀ H : Hp, H cT = some (.tbl #[]) → SqL K H a (ns.map V.int) → sp [.ref a] H (fun v _ => v = .bl true) fun _ _ _ => False) :
    codeAny (model P w) callerA (.call (.ref fa) ⟨[.ref a], []⟩) (fun r s' => r = .ok (.ret (.bool true)) ∧ OldK s₁.heap s'.heap ∧ s'.os = s₁.os ∧ AllBare s'.gens) s₁ := by
  have rv := vals_ints hi
  have naT : a ≠ cT := fun z => by
    rw [z, hT] at ha
    cases congrArg Obj.data (Option.some.inj ha)
  cases hk : K.lookup a with
  | some o =>
    have e := KX a o hk
    rw [ha] at e
    cases e
    refine law_coreGT KX hns hb hbb hlim hg hT nT C hbm ha hr F hbind hsp (fun b => if b = cT then some (.tbl #[]) else none) (if_pos rfl) (fun b nb => .inl (if_neg nb)) (.inr ⟨_, vs.toArray, _, hk, rfl, rfl, rfl, by rw [List.size_toArray, hi.length]; exact hl, by simpa using rv⟩) (fun b u z => ?_) (fun b z => ?_) fun z => absurd (if_neg naT) z
    · by_cases hb : b = cT
      · have z' := (if_pos hb).symm.trans z
        cases z'
        rw [hb]
        exact hT
      · have z' := (if_neg hb).symm.trans z
        cases z'
    · by_cases hb : b = cT
      · exact .inr hb
      · exact absurd (if_neg hb) z
  | none =>
    refine law_coreGT KX hns hb hbb hlim hg hT nT C hbm ha hr F hbind hsp (fun b => if b = cT then some (.tbl #[]) else if b = a then some (.frz { cls := .type "list", data := .seq vs.toArray } (.lst (ns.map V.int))) else none) (if_pos rfl) (fun b nb => ?_) (.inl (.inr ⟨{ cls := .type "list", data := .seq vs.toArray }, (if_neg naT).trans (if_pos rfl)⟩)) (fun b u z => ?_) (fun b z => ?_) fun _ => hk
    · by_cases hb : b = a
      · exact .inr ⟨_, _, (if_neg nb).trans (if_pos hb)⟩
      · exact .inl ((if_neg nb).trans (if_neg hb))
    · by_cases hb : b = cT
      · have z' := (if_pos hb).symm.trans z
        cases z'
        rw [hb]
        exact hT
      · have z1 := (if_neg hb).symm.trans z
        by_cases hb2 : b = a
        · have z' := (if_pos hb2).symm.trans z1
          cases z'
          rw [hb2]
          exact ⟨ha, by rw [List.length_map]; exact hl, vs, _, rv, ha⟩
        · have z' := (if_neg hb2).symm.trans z1
          cases z'
    · by_cases hb : b = cT
      · exact .inr hb
      · by_cases hb2 : b = a
        · exact .inl hb2
        · exact absurd ((if_neg hb).trans (if_neg hb2)) z
end
/-- the end of a law with one table of code objects, where no repr runs around; y: the def whose table it is -/
theorem walk_ofGT {l : PySem.W.OpenLaw} {n k : Nat} {q : Program} {loose : List Str} {XP : (Str → Option Value) → Heap → Prop} {YP : World → Heap → Prop} {d dy : DefRec} {x y : Str}
    (hn : l.most = some n) (hn2 : n ≤ sizeLine) (hdf : d.params.defaults = []) (hr : Room k callerA) (hrec : (PyProof.Rows.recsOf q).find? (fun e => e.name == y) = some dy)
    (F : ∀ (w : World) (mg : Str → Option Value) (fa : Addr) (h : Heap), YP w h → h.Ns mainGlobals mg → mg d.name = some (.ref fa) →
      ∃ (K : PySem.W.Frag) (fd : FuncData) (sp : Sp) (cC cT : Addr), K.In h ∧ PySem.W.tabIn K y = some (cC, cT) ∧ K.lookup cT = none ∧ (∀ (s : Shared) (u : Value), BindsTo s fd ⟨[u], []⟩ [(x, u)]) ∧
        (∀ (H : Hp) (a : Addr) (ns : List Int), ns.length ≤ n → H cT = some (.tbl #[]) → SqL K H a (ns.map V.int) → sp [.ref a] H (fun v _ => v = .bl true) fun _ _ _ => False) ∧
        ∀ base : Heap, K.In base → base.Ns mainGlobals mg → TabB base mg cC cT → FnOkG l.prog w K mg base k fa fd [x] sp) :
    PySem.W.WalkO q loose XP YP l.row.toRowW d [] (fun f vs => PySem.call f vs) := by
  refine Att.attach_call hn hdf fun w s₀ s₁ mg mb fa o pm cd doc a vs ns G Y ho hd hcd hmg hobj hints hlen hg => ?_
  obtain ⟨K, fd, sp, cC, cT, KX, ht, nT, hb, hsp, hF⟩ := F w mg fa _ Y G.T.g hmg
  obtain ⟨C, hT⟩ := PySem.W.tab_of G.T KX hrec ht
  exact law_callGT KX G.T.g G.T.b G.T.builtins G.T.nolimit hg hT nT C G.T.bmain hobj hints (Nat.le_trans hlen hn2) hr hF hb (fun H hH hS => hsp H a ns hlen hH hS)
end EX2
set_option Elab.async false
set_option linter.all false
set_option maxRecDepth 100000
set_option maxHeartbeats 4000000
/-! a dict of one pair, its key a tuple of texts and ints; repr of data or of such a dict; the heap before a source -/
namespace EX2
open PySem PySem.Spec PyProof.Rows L2
/-- {k: v}, k a tuple of ints and texts -/
def tDisT (tk tv : TE) : TE := fun σ H Q => ∀ p, H p = none → tPairs [(tk, tv)] σ (upd H p (.dT [])) fun ps H2 => H2 p = some (.dT []) ∧ ∃ (b : Addr) (ks : List Key) (y : V), ps = [(.ref b, y)] ∧ H2 b = some (.tup (ks.map kV)) ∧ Q (.ref p) (upd H2 p (.dT [(ks, y)]))
theorem pe_disT {X : Cx} {pos : Pos} {k v : Expr} {tk tv : TE} (hu : X.A.units + 1 < cLine) (hk : PE X k tk) (hv : PE X v tv) : PE X (.Dict [some k] [v] pos) (tDisT tk tv) := by
  refine ⟨fun pins s σ H Q I q => ?_⟩
  have hn := I.hok.fresh (Nat.le_refl s.heap.objs.size)
  have I1 := I.laid (a := s.heap.objs.size) (o := .dT []) (h' := s.heap.push { cls := .type "dict", data := .dict #[] }) (t' := s.toks) (fun _ _ q => Heap.get?_push_of_some _ q) (Nat.le_refl _) (dt_empty s.heap I.big)
  have hpp : PPs X pos [some k] [v] [(tk, tv)] := pps_cons hk hv pps_nil
  have q0 := q _ hn
  rw [arm_eval_Dict, zip_pairTrees [some k] [v] X.env pos rfl rfl, dictDisplay_pairs (pairTrees [some k] [v] X.env pos) (by simp [pairTrees]) (by simp [pairTrees])]
  refine wpAny_bind (wpAny_standAt (wpAny_bind (wpAny_subDictH (knd := tupleKind (mixKind X.prog X.w)) (Q := fun d s' => wpAny (model X.prog X.w) X.A (pure (Value.ref d)) (EP X pins σ Q) X.xe s') ?_ (by simp [pairTrees]) ?_)))
  · exact Nat.lt_of_succ_lt hu
  refine thn (hpp.run pins _ σ _ _ I1 q0) ?_
  rintro ws s2 ⟨ps, H2, I2, rel, e, b, ks, y, rfl, eb, q2⟩
  cases rel with
  | cons h t =>
    cases t
    rename_i wv
    obtain ⟨w1, w2⟩ := wv
    obtain ⟨r1, r2⟩ := h
    obtain rfl : w1 = Value.ref b := r1
    obtain ⟨z, hd, xs, rx, dd⟩ := dt_of I2.hok e
    cases rx
    refine ⟨[(ks, b, w2)], ⟨rfl, rfl, key_of I2.hok eb, trivial⟩, dd, fun h' tk dd' hs => ?_⟩
    obtain ⟨q, es, ep, hq, h2, h3, h4, _, h5⟩ := dd'
    refine wpAny_pure ⟨.ref s.heap.objs.size, _, ?_, rfl, q2⟩
    refine d_write (t' := tk) I2 (by rw [e]; exact True.intro) hs ⟨q, hq⟩ ⟨by rw [sizeLine_eq]; simp, hd, [(ks, b, w2)], .cons ⟨rfl, ?_, r2⟩ .nil, q, es, ep, hq, h2, h3, h4, h5⟩
    rw [upd_ne (ne_of eb e (fun z => nomatch z))]
    exact eb
/-- the dict of one pair as data -/
def tdD (ks : List Key) (d : PyData) : PyData := .dict [(.tuple (ks.map kD), d)]
/-- data, or the dict of one pair whose key is a tuple -/
inductive Dw (H : Hp) : V → PyData → Prop
  | q {x : V} {d : PyData} (h : Dq H x d) : Dw H x d
  | t {a : Addr} {ks : List Key} {y : V} {d : PyData} (e : H a = some (.dT [(ks, y)])) (h : Dq H y d) : Dw H (.ref a) (tdD ks d)
theorem Dw.ext {H H' : Hp} (e : Evl.Ex H H') {x : V} {d : PyData} (h : Dw H x d) : Dw H' x d := by
  cases h with
  | q h => exact .q (h.ext e)
  | t a h => exact .t (e _ _ a) (h.ext e)
theorem keysD (H : Hp) : ∀ ks : List Key, DqAll H (ks.map kV) (ks.map kD)
  | [] => .nil
  | .inl i :: l => .cons (.int i) (keysD H l)
  | .inr x :: l => .cons (.str x) (keysD H l)
theorem Dw.reads {P : Program} {w : World} {H : Hp} {h : Heap} (ok : HOk P w H h) (sd : SysD h) {a : Addr} {ks : List Key} {y : V} {d : PyData} (e : H a = some (.dT [(ks, y)])) (q : Dq H y d) : ∃ as, Reads h (.ref a) (tdD ks d) as ∧ sysModules ∉ as := by
  obtain ⟨hz, hs, vs, rk, o, es, ep, h1, h2, h3, h4, _⟩ := (show ObjOk P w H h a (.dT [(ks, y)]) from ok a _ e)
  cases rk with
  | @cons _ x _ _ hh t =>
    cases t
    obtain ⟨k', b, v'⟩ := x
    obtain ⟨e1, e2, e3⟩ : ks = k' ∧ H b = some (.tup (ks.map kV)) ∧ L2.RelV y v' := hh
    cases e1
    obtain ⟨as, r1, n1⟩ := Dq.reads ok sd (.ref b) (.tup e2 (keysD H ks)) rfl
    obtain ⟨bs, r2, n2⟩ := Dq.reads ok sd v' q e3
    refine ⟨_, .dict h1 h2.1 h3 (as := as ++ []) (bs := bs ++ []) ?_ ?_, fun z => ?_⟩
    · rw [h4]
      exact .cons r1 .nil
    · rw [h4]
      exact .cons r2 .nil
    · rcases List.mem_cons.mp (show sysModules ∈ a :: (as ++ [] ++ (bs ++ [])) from z) with z | z
      · rw [z] at hs
        simp at hs
      · simp at z
        exact z.elim n1 n2
/-! ### repr of it -/
def rReprW : List V → Hp → VK → Prop := fun xs H Q => ∃ (x : V) (d : PyData), xs = [x] ∧ Dw H x d ∧ d.showable = true ∧ d.shown.length ≤ sizeLine ∧ d.depth ≤ 60 ∧ Q (.str d.shown) H
theorem call_reprW {X : Cx} (hg : X.A.guards = some []) (hu : X.A.units + 65 < cLine) (sd : SysD X.base) : CallR X (.builtin "repr") rReprW := by
  intro pins s σ H xs us Q I r h
  obtain ⟨x, d, rfl, hd, hs, hz, hdp, q⟩ := h
  cases hd with
  | q hd => exact call_reprD hg hu sd pins s σ H _ us Q I r ⟨x, d, rfl, hd, hs, hz, hdp, q⟩
  | @t a ks y d e hq =>
    obtain ⟨u, rfl, r1⟩ := vals1 r
    have sd1 : SysD s.heap := by
      obtain ⟨o, es, n, h1, h2⟩ := sd
      exact ⟨o, es, n, I.bk _ _ h1, h2⟩
    obtain ⟨as, rd, hn⟩ := Dw.reads I.hok sd1 e hq
    obtain rfl : u = Value.ref a := r1
    exact repr_of_reads' rd hs (fun _ => hn) hg (by omega) (fun _ _ e => e) (fun h' u tk k => ⟨.str _, H, I.kept (t' := tk) k, ⟨_, rfl⟩, q⟩) hz
/-! ### the heap before a source -/
theorem Lx.back {p : Addr} {H H1 H' : Hp} {o : HO} (hp : H p = none) (l : Lx p (upd H p o) H') : Evl.Ex H H' := fun b u e => by
  have nb : b ≠ p := by rintro rfl; rw [hp] at e; cases e
  exact l.at (by rw [upd_ne nb]; exact e) nb
theorem ok_get {P : Program} {w : World} {K : PySem.W.Frag} {mg : Str → Option Value} {base : Heap} {f : Addr} {fd : FuncData} {C : Addr} {name qual x : Str} {params : Arguments} {body : List Stmt} {scope : Scope} {N : List Str} {p1 p2 p3 : Pos}
    (F : FunD K name qual params body scope [] [] f fd) (S : FnScope N ["self"] scope) (hN : N[0]? = some ("self" : Str)) (hb : body = [.Return (some (.Attribute (.Name "self" p1) x p2)) p3]) (c : Cls K C) (n : NoAttr K C x) : FnOk P w K mg base CX0 1 f fd ["self"] (getSp C x) := by
  refine F.ok S (fun vs H Q E h => ?_) (fun cdv A outer s H vs Q E hr h => ?_)
  · obtain ⟨a, dx, fs, v, e, _⟩ := h
    rw [e]
    rfl
  · obtain ⟨a, dx, fs, v, e, ea, l, q⟩ := h
    subst e
    subst hb
    refine ⟨_, PSs.nox (pss_one (ps_ret (pe_fld (pe_var (i := 0) hN ((S.par "self" (List.Mem.head _)).elim (fun z => .inl z) (fun z => .inr (.inl z)))) rfl))), ?_⟩
    exact ⟨.ref a, rfl, a, C, dx, fs, v, rfl, ea, c, n, l, q⟩
/-- two promises of one function -/
theorem FnOk.both {P : Program} {w : World} {K : PySem.W.Frag} {mg : Str → Option Value} {base : Heap} {CX : CXT} {k : Nat} {f : Addr} {fd : FuncData} {ps : List Str} {sp sp' : Sp} (F : FnOk P w K mg base CX k f fd ps sp) (F' : FnOk P w K mg base CX k f fd ps sp') :
    FnOk P w K mg base CX k f fd ps (fun vs H Q E => sp vs H Q E ∨ sp' vs H Q E) :=
  ⟨fun vs H Q E h => h.elim (F.len vs H Q E) (F'.len vs H Q E), fun A outer s H args us vs Q E hr e0 hb r h => h.elim (F.run A outer s H args us vs Q E hr e0 hb r) (F'.run A outer s H args us vs Q E hr e0 hb r)⟩
end EX2
set_option Elab.async false
set_option linter.all false
set_option maxRecDepth 100000
set_option maxHeartbeats 4000000
/-! several except clauses that name the exception -/
namespace EX2
open PySem PySem.Spec PyProof.Rows L2
abbrev AsL : Type := List (Value × (Addr → Value → Option Addr → TS))
/-- what the clauses 'except x as n' wish of an exception of the body, one after the other: slot i is n's -/
def wManyAs (K : PySem.W.Frag) (i : Nat) (Wout : WX) (D : Ends) : AsL → WX
  | [] => Wout
  | (c, ts) :: r => fun cls d σ H => ∃ b, PySem.W.exmOne K cls c = some b ∧
      (b = true → ∀ a, H a = none → ts a cls d { nx := fun σ' H' => D.nx (σ'.set i none) H', rt := D.rt, bk := fun σ' H' => D.bk (σ'.set i none) H', ct := fun σ' H' => D.ct (σ'.set i none) H' } (σ.set i (some (.ref a))) H) ∧
      (b = false → wManyAs K i Wout D r cls d σ H)
inductive HdsAs (X : Cx) (n : Str) : List ExceptHandler → AsL → Prop
  | nil : HdsAs X n [] []
  | cons {x : Str} {c : Value} {ts : Addr → Value → Option Addr → TS} {b₀ : Stmt} {suite : List Stmt} {np pos' : Pos} {hds : List ExceptHandler} {l : AsL} (hc : Names X x c)
      (hsu : ∀ (a : Addr) (oe : Obj) (cls : Value) (d : Option Addr) (pn : List (Addr × Obj)), Zc cls d oe → (∃ vs, oe.data = .fields vs) → PSs (X.suite a ((a, oe) :: pn)) (b₀ :: suite) (ts a cls d)) (r : HdsAs X n hds l) :
      HdsAs X n (.ExceptHandler (some (.Name x np)) (some n) (b₀ :: suite) pos' :: hds) ((c, ts) :: l)
section
variable {X : Cx} {n : Str} {i : Nat} {body : List Stmt} {h₀ : ExceptHandler} {hds : List ExceptHandler} {l : AsL} {pos : Pos} {tb : WX → TS} {Wout : WX}
theorem ps_try_manyAs (hs : X.stack = X.env :: X.outer) (hf : X.env.frame = some X.env.locals) (hN : X.N.Nodup) (hi : X.N[i]? = some n) (hln : X.env.kindOf n = some .local) (tk : Takes X Wout)
    (hb : ∀ (W : WX) (pn : List (Addr × Obj)) (xe : Value → Shared → Prop), Takes (X.tr pn xe) W → PassesOwn (model X.prog X.w) X.A X.env xe → PSs (X.tr pn xe) body (tb W))
    (hh : HdsAs X n (h₀ :: hds) l) : PS X (.Try body (h₀ :: hds) [] [] pos) (fun D σ H => tb (wManyAs X.K i Wout D l) D σ H) := by
  refine ⟨fun pins s σ H D I h => ?_⟩
  have ok := I.ok
  have hfr : X.A.frames = some (X.env :: X.outer) := by rw [ok.frames, hs]
  have hloc : Loc X.env.scope n := .inl hln
  refine wpAny_Try_except ?_
  refine wpAny_mono ((hb (wManyAs X.K i Wout D l) (X.pn ++ pins) (fun e s₁ => wpAny (model X.prog X.w) X.A (noteFrame e X.env) (fun _ s₂ => wpAny (model X.prog X.w) X.A (setFlight e none) (fun _ s₃ =>
    wpAny (model X.prog X.w) X.A (handleBy e X.env (h₀ :: hds)) (SP X pins D) X.xe s₃) X.xe s₂) X.xe s₁) (fun u s' xx => ?_) PassesOwn.looking).run [] s σ H D (I.toTry _) h) (fun f s1 hsp => ?_) (fun e s1 he => he)
  · obtain ⟨a, B, sI, pins', σ', H', cls, d, rfl, J', nb, up, sky, na, os, ag, w⟩ := xx
    have J : Inv X pins σ' H' sI := J'.ofTry ok
    have sky' : Sky B (X.env :: X.outer) a (Zc cls d) X.env.locals s'.heap := by rw [← hs]; exact sky
    show wpAny (model X.prog X.w) X.A (noteFrame (.ref a) X.env) _ _ _
    refine Sky.land Zc.steady hfr hf sky' fun h3 fl3 up3 => ?_
    have J3 : Inv X pins σ' H' { s' with heap := h3 } := J.landed nb fl3.1 (up.trans up3) os ag
    obtain ⟨oe3, vs3, he3, hz3, hd3⟩ := fl3.there
    have notFr : ∀ {h : Heap} {o : Obj} {vs : Array Value}, h.FunFrames B (X.env :: X.outer) → h.get? a = some o → o.data = .fields vs → a ∉ frs (X.env :: X.outer) := fun {h o vs} ff e dd hm => by
      obtain ⟨_, o', e', hnf⟩ := ff.mem hm
      rw [e] at e'; cases e'
      exact hnf _ dd
    have nfr := notFr fl3.2.2.1 he3 hd3
    have nL : a ≠ X.env.locals := fun z => nfr (List.mem_filterMap.mpr ⟨X.env, List.mem_cons_self, by rw [hf, z]⟩)
    have nF : a ∉ X.fs := fun hm => by
      obtain ⟨e, he, q⟩ := List.mem_filterMap.mp hm
      exact nfr (List.mem_filterMap.mpr ⟨e, List.mem_cons_of_mem _ he, q⟩)
    have S3 := J3.suite he3 hd3 na nL nF
    have go : ∀ {hds' : List ExceptHandler} {l' : AsL}, HdsAs X n hds' l' → wManyAs X.K i Wout D l' cls d σ' H' →
        wpAny (model X.prog X.w) X.A (handleBy (.ref a) X.env hds') (SP X pins D) X.xe { s' with heap := h3 } := by
      intro hds' l' hk
      induction hk with
      | nil =>
        intro w
        refine wpAny_handleBy_nil ?_
        obtain ⟨k1, k2, k3, oe, vs, T, oT, ts', he, hz, hd, h1, hr⟩ := id fl3
        unfold PySem.passOn
        refine wpAny_bind (wpAny_field he hd h1 ?_)
        rw [if_neg (show ¬ ((Value.ref T == Value.none) = true) from by simp)]
        have fin : wpAny (model X.prog X.w) X.A (setFlight (.ref a) X.env.frame) (fun _ s4 => wpAny (model X.prog X.w) X.A (throw (.ref a) : Sem Flow) (SP X pins D) X.xe s4) X.xe { s' with heap := h3 } := by
          rw [hf]
          refine HandSPX.setFlight_upZ fl3 fun h4 hh4 up4 => wpAny_throw (tk _ _ ?_)
          exact ⟨a, B, sI, pins, σ', H', cls, d, rfl, J, nb, (up.trans up3).trans up4, .inr (.inr (by rw [hs]; exact hh4)), na, os, ag, w⟩
        first
          | exact wpAny_bind (wpAny_pure (wpAny_bind fin))
          | exact wpAny_bind fin
      | @cons x c ts b₀ suite np pos' hds2 l2 hc hsu r ih =>
        intro w
        obtain ⟨b, hb1, hyes, hno⟩ := w
        refine wpAny_handleBy_cons (codeAny_handlers_test ?_) (by intro q; cases q)
        have LT : PySem.W.Looks (model X.prog X.w) h3 (typeOf (.ref a)) cls := fun A Q E s k q => wpAny_typeOf_ref (k _ _ he3) (by rw [hz3.1]; exact q)
        have LM := PySem.W.exm_one (M := model X.prog X.w) (J3.kIn) LT hb1
        have test : ∀ {Q : Value → Shared → Prop} {E : Value → Shared → Prop}, Q c { s' with heap := h3 } → wpAny (model X.prog X.w) (X.A.mark (some (.ref a))) (eval (.Name x np) X.env) Q E { s' with heap := h3 } := fun {Q E} q => by
          obtain ⟨hg, hdbg, hm | ⟨hm, hv, hnn⟩⟩ := hc
          · exact ld_glob (X := X.suite a ((a, oe3) :: (X.pn ++ pins))) S3 hg hm q hdbg
          · exact ld_blt (X := X.suite a ((a, oe3) :: (X.pn ++ pins))) S3 hg hm hv q hnn hdbg
        refine test (LM.here ?_)
        cases b with
        | true =>
          refine codeAny_handlers_suite_as ?_
          refine HandSPX.lands_againZ fl3 fun h4 fl4 up4 => ?_
          have J4 : Inv X pins σ' H' { s' with heap := h4 } := J.landed nb fl4.1 ((up.trans up3).trans up4) os ag
          obtain ⟨oe4, vs4, he4, hz4, hd4⟩ := fl4.there
          have S4 := J4.suite he4 hd4 na nL nF
          refine store_ok (X := X.suite a ((a, oe4) :: (X.pn ++ pins))) (v := .ref a) S4 hN hi hloc rfl (fun s5 S5 => ?_) (.inr hln)
          refine wpAny_mono ((hsu a oe4 cls d (X.pn ++ pins) hz4 ⟨_, hd4⟩).run [] s5 _ H' _ S5 (hyes rfl a na)) (fun f s6 hsp => ?_) (fun _ _ z => False.elim z)
          have end_ : ∀ {σ6 : L2.St} {H6 : Hp} {Q : Shared → Prop}, Inv (X.suite a ((a, oe4) :: (X.pn ++ pins))) [] σ6 H6 s6 → (∀ s7, Inv X pins (σ6.set i none) H6 s7 → Q s7) →
              wpAny (model X.prog X.w) X.A (do bindName X.env n .none; unbindBehindTheSuite X.env n pos') (fun _ s7 => Q s7) X.xe s6 := fun {σ6 H6 Q} S6 hq => gone_ok (S6.unsuite ok) hN hi hln hq
          cases f with
          | next =>
            obtain ⟨σ6, H6, S6, q6⟩ := hsp
            exact end_ S6 fun s7 J7 => ⟨_, _, J7, q6⟩
          | brk =>
            obtain ⟨σ6, H6, S6, q6⟩ := hsp
            exact end_ S6 fun s7 J7 => ⟨_, _, J7, q6⟩
          | cont =>
            obtain ⟨σ6, H6, S6, q6⟩ := hsp
            exact end_ S6 fun s7 J7 => ⟨_, _, J7, q6⟩
          | ret u =>
            obtain ⟨v6, σ6, H6, S6, r6, q6⟩ := hsp
            exact end_ S6 fun s7 J7 => ⟨_, _, _, J7, r6, q6⟩
        | false =>
          show wpAny _ X.A (handleBy (.ref a) X.env hds2) _ _ _
          exact ih (hno rfl)
    exact go hh w
  · cases f with
    | next =>
      obtain ⟨σ', H', J', q⟩ := hsp
      exact wpAny_execs_nil ⟨σ', H', J'.ofTry ok, q⟩
    | brk =>
      obtain ⟨σ', H', J', q⟩ := hsp
      exact ⟨σ', H', J'.ofTry ok, q⟩
    | cont =>
      obtain ⟨σ', H', J', q⟩ := hsp
      exact ⟨σ', H', J'.ofTry ok, q⟩
    | ret u =>
      obtain ⟨v, σ', H', J', r, q⟩ := hsp
      exact ⟨v, σ', H', J'.ofTry ok, r, q⟩
end
end EX2
set_option Elab.async false
set_option linter.all false
set_option maxRecDepth 100000
set_option maxHeartbeats 0
/-! what the head says of Tables, Loader, ClassText and the exceptions -/
namespace K06
open PySem PySem.Spec PyProof.Rows L2 EX2 TX
/-- an exception with one value, its field's name -/
structure ExF (P : Program) (w : World) (K : PySem.W.Frag) (mg : Str → Option Value) (base : Heap) (c fl : Str) : Prop where
  hm : mg c = some (.ref (He.ga K c))
  g : ClsG K (He.ga K c) (He.ga K "ClassError") (ini K c) [fl]
  fn : ∃ fd, FnOk P w K mg base CX0 1 (ini K c) fd ["self", fl] (spX (He.ga K c) 1 fun xs => [(fl, xs.headD .non)]) ∧ Binds K fd ["self", fl] []
/-- UnknownClass -/
structure ExU (P : Program) (w : World) (K : PySem.W.Frag) (mg : Str → Option Value) (base : Heap) : Prop where
  hm : mg "UnknownClass" = some (.ref (He.ga K "UnknownClass"))
  g : ClsG K (He.ga K "UnknownClass") (He.ga K "ClassError") (ini K "UnknownClass") ["loader", "word"]
  fn : ∃ fd, FnOk P w K mg base CX0 1 (ini K "UnknownClass") fd ["self", "loader", "word"] (spX (He.ga K "UnknownClass") 2 fun xs => [("word", xs.getD 1 .non), ("loader", xs.getD 0 .non)]) ∧ Binds K fd ["self", "loader", "word"] []
/-- isinstance(.., C) -/
structure InsK (K : PySem.W.Frag) (C : Addr) : Prop where
  ha : PySem.W.findIn K (.ref C) "__class__" = some (some (.builtin "object.__class__"))
  hn : PySem.W.specialIn K (.builtin "object.__class__") "__get__" = some (some (.builtin "getset_descriptor.__get__"))
  ht : PySem.W.takesIn K (.builtin "object.__class__") = some true
  hm : PySem.W.mroIn K C (.type "object") = some true
  kn : PySem.W.kitOne K (.type "NoneType") (.ref C) = some false
  ks : PySem.W.kitOne K (.type "str") (.ref C) = some false
  kt : PySem.W.kitOne K (.type "tuple") (.ref C) = some false
  ki : PySem.W.kitOne K (.type "int") (.ref C) = some false
  kl : PySem.W.kitOne K (.type "list") (.ref C) = some false
theorem InsK.kc {K : PySem.W.Frag} {C : Addr} (_ : InsK K C) : PySem.W.kitOne K (.ref C) (.ref C) = some true := by
  unfold PySem.W.kitOne
  rw [if_pos (by simp)]
structure TK (P : Program) (w : World) (K : PySem.W.Frag) (mg : Str → Option Value) (base : Heap) : Prop where
  d : Defs w K mg
  c : TbC K
  un : ExF P w K mg base "UnknownLoader" "given"
  nt : ExF P w K mg base "NameTaken" "given"
  iN : ExF P w K mg base "InvalidName" "given"
  ic : ExF P w K mg base "InvalidClass" "given"
  le : ExF P w K mg base "LimitExceeded" "limit"
  uc : ExU P w K mg base
  hT : mg "Tables" = some (.ref (He.ga K "Tables"))
  mkT : Mk K (He.ga K "Tables") (He.ma K (He.ga K "Tables") "__init__")
  f___init__ : ∃ fd, FunD K "__init__" "Tables.__init__" (defArgs (inClass (top 41) 2)) (defBody (inClass (top 41) 2)) (defScope (inClass (top 41) 2)) [] [] (He.ma K (He.ga K "Tables") "__init__") fd
  insT : InsK K (He.ga K "Tables")
  m_check_loader : Meth K (He.ga K "Tables") "check_loader" (He.ma K (He.ga K "Tables") "check_loader")
  f_check_loader : ∃ fd, FunD K "check_loader" "Tables.check_loader" (defArgs (inClass (top 41) 4)) (defBody (inClass (top 41) 4)) (defScope (inClass (top 41) 4)) [] [] (He.ma K (He.ga K "Tables") "check_loader") fd
  m_add_loader : Meth K (He.ga K "Tables") "add_loader" (He.ma K (He.ga K "Tables") "add_loader")
  f_add_loader : ∃ fd, FunD K "add_loader" "Tables.add_loader" (defArgs (inClass (top 41) 5)) (defBody (inClass (top 41) 5)) (defScope (inClass (top 41) 5)) [] [("rest", .non)] (He.ma K (He.ga K "Tables") "add_loader") fd
  m_check_free : Meth K (He.ga K "Tables") "check_free" (He.ma K (He.ga K "Tables") "check_free")
  f_check_free : ∃ fd, FunD K "check_free" "Tables.check_free" (defArgs (inClass (top 41) 6)) (defBody (inClass (top 41) 6)) (defScope (inClass (top 41) 6)) [] [] (He.ma K (He.ga K "Tables") "check_free") fd
  m_add_class : Meth K (He.ga K "Tables") "add_class" (He.ma K (He.ga K "Tables") "add_class")
  f_add_class : ∃ fd, FunD K "add_class" "Tables.add_class" (defArgs (inClass (top 41) 7)) (defBody (inClass (top 41) 7)) (defScope (inClass (top 41) 7)) [] [] (He.ma K (He.ga K "Tables") "add_class") fd
  m_ask : Meth K (He.ga K "Tables") "ask" (He.ma K (He.ga K "Tables") "ask")
  f_ask : ∃ fd, FunD K "ask" "Tables.ask" (defArgs (inClass (top 41) 8)) (defBody (inClass (top 41) 8)) (defScope (inClass (top 41) 8)) [] [] (He.ma K (He.ga K "Tables") "ask") fd
  m_next_of : Meth K (He.ga K "Tables") "next_of" (He.ma K (He.ga K "Tables") "next_of")
  f_next_of : ∃ fd, FunD K "next_of" "Tables.next_of" (defArgs (inClass (top 41) 9)) (defBody (inClass (top 41) 9)) (defScope (inClass (top 41) 9)) [] [] (He.ma K (He.ga K "Tables") "next_of") fd
  m_way : Meth K (He.ga K "Tables") "way" (He.ma K (He.ga K "Tables") "way")
  f_way : ∃ fd, FunD K "way" "Tables.way" (defArgs (inClass (top 41) 10)) (defBody (inClass (top 41) 10)) (defScope (inClass (top 41) 10)) [] [] (He.ma K (He.ga K "Tables") "way") fd
  m_identity : Meth K (He.ga K "Tables") "identity" (He.ma K (He.ga K "Tables") "identity")
  f_identity : ∃ fd, FunD K "identity" "Tables.identity" (defArgs (inClass (top 41) 11)) (defBody (inClass (top 41) 11)) (defScope (inClass (top 41) 11)) [] [] (He.ma K (He.ga K "Tables") "identity") fd
  m_text : Meth K (He.ga K "Tables") "text" (He.ma K (He.ga K "Tables") "text")
  f_text : ∃ fd, FunD K "text" "Tables.text" (defArgs (inClass (top 41) 12)) (defBody (inClass (top 41) 12)) (defScope (inClass (top 41) 12)) [] [] (He.ma K (He.ga K "Tables") "text") fd
  m_without : Meth K (He.ga K "Tables") "without" (He.ma K (He.ga K "Tables") "without")
  f_without : ∃ fd, FunD K "without" "Tables.without" (defArgs (inClass (top 41) 13)) (defBody (inClass (top 41) 13)) (defScope (inClass (top 41) 13)) [] [] (He.ma K (He.ga K "Tables") "without") fd
  m_copy : Meth K (He.ga K "Tables") "copy" (He.ma K (He.ga K "Tables") "copy")
  f_copy : ∃ fd, FunD K "copy" "Tables.copy" (defArgs (inClass (top 41) 14)) (defBody (inClass (top 41) 14)) (defScope (inClass (top 41) 14)) [] [] (He.ma K (He.ga K "Tables") "copy") fd
  m___getitem__ : Meth K (He.ga K "Tables") "__getitem__" (He.ma K (He.ga K "Tables") "__getitem__")
  f___getitem__ : ∃ fd, FunD K "__getitem__" "Tables.__getitem__" (defArgs (inClass (top 41) 15)) (defBody (inClass (top 41) 15)) (defScope (inClass (top 41) 15)) [] [] (He.ma K (He.ga K "Tables") "__getitem__") fd
  m___contains__ : Meth K (He.ga K "Tables") "__contains__" (He.ma K (He.ga K "Tables") "__contains__")
  f___contains__ : ∃ fd, FunD K "__contains__" "Tables.__contains__" (defArgs (inClass (top 41) 16)) (defBody (inClass (top 41) 16)) (defScope (inClass (top 41) 16)) [] [] (He.ma K (He.ga K "Tables") "__contains__") fd
  m___eq__ : Meth K (He.ga K "Tables") "__eq__" (He.ma K (He.ga K "Tables") "__eq__")
  f___eq__ : ∃ fd, FunD K "__eq__" "Tables.__eq__" (defArgs (inClass (top 41) 19)) (defBody (inClass (top 41) 19)) (defScope (inClass (top 41) 19)) [] [] (He.ma K (He.ga K "Tables") "__eq__") fd
  m_parts : Meth K (He.ga K "Tables") "parts" (He.ma K (He.ga K "Tables") "parts")
  f_parts : ∃ fd, FunD K "parts" "Tables.parts" (defArgs (inClass (top 41) 20)) (defBody (inClass (top 41) 20)) (defScope (inClass (top 41) 20)) [] [] (He.ma K (He.ga K "Tables") "parts") fd
  hL : mg "Loader" = some (.ref (He.ga K "Loader"))
  mkL : Mk K (He.ga K "Loader") (He.ma K (He.ga K "Loader") "__init__")
  clL : Cls K (He.ga K "Loader")
  nL1 : NoAttr K (He.ga K "Loader") "own_tables"
  nL2 : NoAttr K (He.ga K "Loader") "own_name"
  fl___init__ : ∃ fd, FunD K "__init__" "Loader.__init__" (defArgs (inClass (top 40) 0)) (defBody (inClass (top 40) 0)) (defScope (inClass (top 40) 0)) [] [] (He.ma K (He.ga K "Loader") "__init__") fd
  l___contains__ : Meth K (He.ga K "Loader") "__contains__" (He.ma K (He.ga K "Loader") "__contains__")
  fl___contains__ : ∃ fd, FunD K "__contains__" "Loader.__contains__" (defArgs (inClass (top 40) 5)) (defBody (inClass (top 40) 5)) (defScope (inClass (top 40) 5)) [] [] (He.ma K (He.ga K "Loader") "__contains__") fd
  l___getitem__ : Meth K (He.ga K "Loader") "__getitem__" (He.ma K (He.ga K "Loader") "__getitem__")
  fl___getitem__ : ∃ fd, FunD K "__getitem__" "Loader.__getitem__" (defArgs (inClass (top 40) 7)) (defBody (inClass (top 40) 7)) (defScope (inClass (top 40) 7)) [] [] (He.ma K (He.ga K "Loader") "__getitem__") fd
  git : PySem.W.fnIn K (He.ma K (He.ga K "Tables") "__getitem__") = true
  giL : PySem.W.fnIn K (He.ma K (He.ga K "Loader") "__getitem__") = true
  hC : mg "ClassText" = some (.ref (He.ga K "ClassText"))
  mkC : Mk K (He.ga K "ClassText") (He.ma K (He.ga K "ClassText") "__init__")
  ct : CtZ K
  insC : InsK K (He.ga K "ClassText")
  initC : ∃ fd, FunD K "__init__" "ClassText.__init__" (defArgs (inClass (top 38) 0)) (defBody (inClass (top 38) 0)) (defScope (inClass (top 38) 0)) [] [("above", .str "top"), ("marks", .ref (kdAt "marks" K)), ("fields", .ref (kdAt "fields" K)), ("methods", .ref (kdAt "methods" K))] (He.ma K (He.ga K "ClassText") "__init__") fd
  e1 : KT K (kdAt "marks" K)
  e2 : KT K (kdAt "fields" K)
  e3 : KT K (kdAt "methods" K)
  hMe : mg "Method" = some (.ref (He.ga K "Method"))
  nameC : PropOf K (He.ga K "ClassText") "name" (prA K "ClassText" "name") (prG "ClassText" "name" K) ∧ ∃ fd, FnOk P w K mg base CX0 1 (prG "ClassText" "name" K) fd ["self"] (getSp (He.ga K "ClassText") "own_name") ∧ Binds K fd ["self"] []
  cR : ClX.CRead K (He.ga K "Tables") (.type "type")
  c8 : ∃ u, ClX.CVal K (He.ga K "Tables") (.type "type") "MOST" (.int 8) u
  c40 : ∃ u, ClX.CVal K (He.ga K "Tables") (.type "type") "CLASSES" (.int 40) u
  gdict : mg "dict" = none
  gR : mg "repr" = none
  c_parts : Meth K (He.ga K "ClassText") "parts" (He.ma K (He.ga K "ClassText") "parts")
  fc_parts : ∃ fd, FunD K "parts" "ClassText.parts" (defArgs (inClass (top 38) 9)) (defBody (inClass (top 38) 9)) (defScope (inClass (top 38) 9)) [] [] (He.ma K (He.ga K "ClassText") "parts") fd
  c___eq__ : Meth K (He.ga K "ClassText") "__eq__" (He.ma K (He.ga K "ClassText") "__eq__")
  fc___eq__ : ∃ fd, FunD K "__eq__" "ClassText.__eq__" (defArgs (inClass (top 38) 10)) (defBody (inClass (top 38) 10)) (defScope (inClass (top 38) 10)) [] [] (He.ma K (He.ga K "ClassText") "__eq__") fd
  cls : PropOf K (He.ga K "Loader") "classes" (prA K "Loader" "classes") (prG "Loader" "classes" K) ∧ ∃ fd, FunD K "classes" "Loader.classes" (defArgs (inClass (top 40) 4)) (defBody (inClass (top 40) 4)) (defScope (inClass (top 40) 4)) [] [] (prG "Loader" "classes" K) fd
section
variable {P : Program} {w : World} {K : PySem.W.Frag} {mg : Str → Option Value} {base : Heap} {f : Addr} {fd : FuncData}
theorem TK.t (D : TK P w K mg base) : Txt K mg := D.d.t
theorem TK.is_name (D : TK P w K mg base) : ∃ f fd, mg "is_name" = some (.ref f) ∧ FnP K "is_name" sName f fd := D.d.is_name
theorem TK.is_class_name (D : TK P w K mg base) : ∃ f fd, mg "is_class_name" = some (.ref f) ∧ FnP K "is_class_name" (top 33) f fd := D.d.is_class_name
theorem hu1 {X : Cx} {k : Nat} (hr : Room k X.A) : X.A.units + 1 < cLine := by have := hr.units; omega
end
/-- the object of a Tables -/
def TObj (C : Addr) (H : Hp) (t D1 D2 D3 : Addr) : Prop := ∃ dt, H t = some (.ins C dt (tfields D1 D2 D3))
def strKey (d : PyData) (kvs : List (Key × V)) : Bool := match d with
  | .str z => (valV kvs (.inr z)).isSome
  | _ => false
end K06
set_option Elab.async false
set_option linter.all false
set_option maxRecDepth 100000
set_option maxHeartbeats 0
/-! check_loader -/
namespace K06
open PySem PySem.Spec PyProof.Rows L2 EX2 TX
def spCkL (K : PySem.W.Frag) : Sp := fun vs H Q E => ∃ (t D1 D2 D3 : Addr) (x : V) (d : PyData) (kvs : List (Key × V)), vs = [.ref t, x] ∧ TObj (He.ga K "Tables") H t D1 D2 D3 ∧ H D1 = some (.dK kvs) ∧ Dq H x d ∧ okD d = true ∧
  ((strKey d kvs = true ∧ Q .non H) ∨ (strKey d kvs = false ∧ ∀ (dd : Addr) (H' : Hp), Evl.Ex H H' → H' dd = some (.xd [("given", x)]) → E (.ref (He.ga K "UnknownLoader")) (some dd) H'))
section
variable {P : Program} {w : World} {K : PySem.W.Frag} {mg : Str → Option Value} {base : Heap} {f : Addr} {fd : FuncData}
abbrev sTables_check_loader : Stmt := inClass (top 41) 4
abbrev nTables_check_loader : List Str := ["self", "name"]
theorem scTables_check_loader : FnScope nTables_check_loader ["self", "name"] (defScope sTables_check_loader) := ⟨rfl, rfl, rfl, by decide +kernel, rfl, by decide +kernel, by decide +kernel⟩
theorem okTables_check_loader (F : FunD K "check_loader" "Tables.check_loader" (defArgs sTables_check_loader) (defBody sTables_check_loader) (defScope sTables_check_loader) [] [] f fd) (D : TK P w K mg base) : FnOk P w K mg base (L2.CX P w) 3 f fd ["self", "name"] (spCkL K) := by
  have T := D.t
  obtain ⟨fdE_un, GE_un, bE_un⟩ := D.un.fn
  refine F.ok scTables_check_loader (fun vs H Q E h => ?_) (fun cdv A outer s H vs Q E hr h => ?_)
  · obtain ⟨t, D1, D2, D3, x, d, kvs, rfl, _⟩ := h
    rfl
  · obtain ⟨t, D1, D2, D3, x, d, kvs, rfl, ⟨dt, ht⟩, h1, hx, ho, h⟩ := h
    refine ⟨_, (pss_one (ps_if (PW.pt (pw_or (pt_not (pt_val (pe_callB call_isi rfl T.isi boot_isi (pa_cons (pv 1) (pa_cons (pe_bltn rfl T.str boot_str (v := .ty "str") rfl) pa_nil))))) (pw_or1 (pt_cmp (pc_dnotin (hu1 hr) (pv 1) (pe_fld (pv 0) rfl))))))
        (pss_one (ps_raise rfl (takes_of rfl rfl rfl rfl) (pmk_xk D.un.g.t D.un.g.at_ D.un.g.ty GE_un (hr.mono (by decide)) bE_un rfl D.un.hm (by decide) (pa_cons (pv 1) pa_nil))))
        pss_nil)), ?_⟩
    refine ⟨_, rfl, _, _, _, _, isStrD d, rfl, .ty "str", ty_of hx, kit_ty (kit_strD d), _, rfl, ?_⟩
    cases hs : isStrD d with
    | false =>
      have hk : strKey d kvs = false := by cases d <;> first | rfl | cases hs
      rcases h with ⟨e, _⟩ | ⟨_, hE⟩
      · rw [hk] at e; cases e
      · exact ifT rfl ⟨_, rfl, rfl, fun dE HE eE hE' => hE dE HE eE hE'⟩
    | true =>
      obtain ⟨z, rfl⟩ : ∃ z, d = .str z := by cases d <;> first | exact ⟨_, rfl⟩ | cases hs
      cases hx
      refine ifF rfl ⟨_, rfl, _, rfl, t, _, dt, _, _, rfl, ht, D.c.cl, D.c.n1, rfl, D1, _, rfl, DGet.k (k := .inr z) h1, _, rfl, ?_⟩
      rcases h with ⟨e, hQ⟩ | ⟨e, hE⟩
      · exact ifF (by rw [show (valV kvs (.inr z)).isSome = true from e]; rfl) hQ
      · exact ifT (by rw [show (valV kvs (.inr z)).isSome = false from e]; rfl) ⟨_, rfl, rfl, fun dE HE eE hE' => hE dE HE eE hE'⟩
end
end K06

set_option Elab.async false
set_option linter.all false
set_option maxRecDepth 100000
set_option maxHeartbeats 0
/-! tables as entries; check_free, in, [..] -/
namespace K06
open PySem PySem.Spec PyProof.Rows L2 EX2 TX
/-- a loader: its name, its dict of texts, its dict of asks -/
structure Ent where
  name : Str
  T : Addr
  A : Addr
  ts : List (Str × V)
  as : List (Str × Str)
def dT (S : List Ent) : List (Key × V) := S.map fun e => (.inr e.name, .ref e.T)
def dA (S : List Ent) : List (Key × V) := S.map fun e => (.inr e.name, .ref e.A)
def dR (S : List Ent) : List (Key × V) := S.map fun e => (.inr e.name, .non)
def kvT (e : Ent) : List (Key × V) := e.ts.map fun q => (.inr q.1, q.2)
def kvA (e : Ent) : List (Key × V) := e.as.map fun q => (.inr q.1, .str q.2)
def TbAt (C : Addr) (H : Hp) (t : Addr) (S : List Ent) : Prop := ∃ D1 D2 D3, TObj C H t D1 D2 D3 ∧ H D1 = some (.dK (dT S)) ∧ H D2 = some (.dK (dA S)) ∧ H D3 = some (.dK (dR S)) ∧ ∀ e ∈ S, H e.T = some (.dK (kvT e)) ∧ H e.A = some (.dK (kvA e))
theorem TbAt.ext {C : Addr} {H H' : Hp} {t : Addr} {S : List Ent} (h : TbAt C H t S) (x : Evl.Ex H H') : TbAt C H' t S := by
  obtain ⟨D1, D2, D3, ⟨dt, h0⟩, h1, h2, h3, h4⟩ := h
  exact ⟨D1, D2, D3, ⟨dt, x _ _ h0⟩, x _ _ h1, x _ _ h2, x _ _ h3, fun e he => ⟨x _ _ (h4 e he).1, x _ _ (h4 e he).2⟩⟩
theorem valV_map {α : Type} (g : α → Str) (h : α → V) (z : Str) : ∀ S : List α, valV (S.map fun e => ((.inr (g e) : Key), h e)) (.inr z) = (S.find? fun e => decide (g e = z)).map h
  | [] => rfl
  | e :: S => by
    rw [List.map_cons]
    by_cases q : g e = z
    · rw [valV_pos (by rw [q]), List.find?_cons_of_pos (by simpa using q)]
      rfl
    · rw [valV_neg (fun y => q (Sum.inr.inj y)), List.find?_cons_of_neg (by simpa using q)]
      exact valV_map g h z S
def ent (S : List Ent) (z : Str) : Option Ent := S.find? fun e => decide (e.name = z)
theorem ent_mem {S : List Ent} {z : Str} {e : Ent} (h : ent S z = some e) : e ∈ S := List.mem_of_find?_eq_some h
def hasT (e : Ent) (n : Str) : Bool := (e.ts.find? fun q => decide (q.1 = n)).isSome
def hasA (e : Ent) (n : Str) : Bool := (e.as.find? fun q => decide (q.1 = n)).isSome
theorem valT (e : Ent) (n : Str) : (valV (kvT e) (.inr n)).isSome = hasT e n := by
  unfold kvT hasT
  rw [valV_map (fun q : Str × V => q.1) (fun q => q.2) n e.ts]
  cases e.ts.find? fun q => decide (q.1 = n) <;> rfl
theorem valA (e : Ent) (n : Str) : (valV (kvA e) (.inr n)).isSome = hasA e n := by
  unfold kvA hasA
  rw [valV_map (fun q : Str × Str => q.1) (fun q => .str q.2) n e.as]
  cases e.as.find? fun q => decide (q.1 = n) <;> rfl
theorem val_dT {S : List Ent} {z : Str} : valV (dT S) (.inr z) = (ent S z).map fun e => .ref e.T := valV_map (fun e : Ent => e.name) (fun e => .ref e.T) z S
theorem val_dA {S : List Ent} {z : Str} : valV (dA S) (.inr z) = (ent S z).map fun e => .ref e.A := valV_map (fun e : Ent => e.name) (fun e => .ref e.A) z S
theorem val_dR {S : List Ent} {z : Str} : valV (dR S) (.inr z) = (ent S z).map fun _ => .non := valV_map (fun e : Ent => e.name) (fun _ => .non) z S
def inT (S : List Ent) : PyData → Bool
  | .str z => (ent S z).isSome
  | _ => false
theorem strKey_dT (S : List Ent) (d : PyData) : strKey d (dT S) = inT S d := by
  cases d with
  | str z => show (valV (dT S) (.inr z)).isSome = (ent S z).isSome; rw [val_dT]; cases ent S z <;> rfl
  | _ => rfl
/-- what is raised: a class with one value -/
def Rs (E : XK) (H : Hp) (C : Addr) (fl : Str) (v : V) : Prop := ∀ (dd : Addr) (H' : Hp), Evl.Ex H H' → H' dd = some (.xd [(fl, v)]) → E (.ref C) (some dd) H'
theorem Rs.ext {E : XK} {H H1 : Hp} {C : Addr} {fl : Str} {v : V} (h : Rs E H C fl v) (e : Evl.Ex H H1) : Rs E H1 C fl v := fun dd H' e1 hd => h dd H' (e.trans e1) hd
def spFree (K : PySem.W.Frag) : Sp := fun vs H Q E => ∃ (t : Addr) (z n : Str) (S : List Ent) (e : Ent), vs = [.ref t, .str z, .str n] ∧ TbAt (He.ga K "Tables") H t S ∧ ent S z = some e ∧
  (((hasT e n || hasA e n) = false ∧ Q .non H) ∨ ((hasT e n || hasA e n) = true ∧ Rs E H (He.ga K "NameTaken") "given" (.str n)))
def spCkT (K : PySem.W.Frag) : Sp := fun vs H Q E => ∃ (t : Addr) (x : V) (d : PyData) (S : List Ent), vs = [.ref t, x] ∧ TbAt (He.ga K "Tables") H t S ∧ Dq H x d ∧ okD d = true ∧
  ((inT S d = true ∧ Q .non H) ∨ (inT S d = false ∧ Rs E H (He.ga K "UnknownLoader") "given" x))
theorem spCkT_X {K : PySem.W.Frag} : ∀ vs H Q E, spCkT K vs H Q E → spCkL K vs H Q E := by
  rintro vs H Q E ⟨t, x, d, S, rfl, ⟨D1, D2, D3, h0, h1, _⟩, hd, ho, h⟩
  refine ⟨t, D1, D2, D3, x, d, _, rfl, h0, h1, hd, ho, ?_⟩
  rw [strKey_dT]
  exact h
section
variable {P : Program} {w : World} {K : PySem.W.Frag} {mg : Str → Option Value} {base : Heap} {f : Addr} {fd : FuncData}
abbrev sTables_check_free : Stmt := inClass (top 41) 6
abbrev nTables_check_free : List Str := ["self", "loader", "name"]
theorem scTables_check_free : FnScope nTables_check_free ["self", "loader", "name"] (defScope sTables_check_free) := ⟨rfl, rfl, rfl, by decide +kernel, rfl, by decide +kernel, by decide +kernel⟩
theorem okTables_check_free (F : FunD K "check_free" "Tables.check_free" (defArgs sTables_check_free) (defBody sTables_check_free) (defScope sTables_check_free) [] [] f fd) (D : TK P w K mg base) : FnOk P w K mg base (L2.CX P w) 3 f fd ["self", "loader", "name"] (spFree K) := by
  have T := D.t
  obtain ⟨fdE_nt, GE_nt, bE_nt⟩ := D.nt.fn
  refine F.ok scTables_check_free (fun vs H Q E h => ?_) (fun cdv A outer s H vs Q E hr h => ?_)
  · obtain ⟨t, z, n, S, e, rfl, _⟩ := h
    rfl
  · obtain ⟨t, z, n, S, e, rfl, ⟨D1, D2, D3, ⟨dt, ht⟩, h1, h2, h3, h4⟩, he, h⟩ := h
    refine ⟨_, (pss_one (ps_if (PW.pt (pw_or (pt_cmp (pc_din (hu1 hr) (pv 2) (pe_dget (hu1 hr) (pe_fld (pv 0) rfl) (pv 1) (fun _ _ => rfl)))) (pw_or1 (pt_cmp (pc_din (hu1 hr) (pv 2) (pe_dget (hu1 hr) (pe_fld (pv 0) rfl) (pv 1) (fun _ _ => rfl)))))))
        (pss_one (ps_raise rfl (takes_of rfl rfl rfl rfl) (pmk_xk D.nt.g.t D.nt.g.at_ D.nt.g.ty GE_nt (hr.mono (by decide)) bE_nt rfl D.nt.hm (by decide) (pa_cons (pv 2) pa_nil))))
        pss_nil)), ?_⟩
    have hm := h4 e (ent_mem he)
    refine ⟨_, rfl, _, rfl, t, _, dt, _, _, rfl, ht, D.c.cl, D.c.n1, rfl, _, rfl, D1, _, rfl, by have g := DGet.k (k := .inr z) h1; rw [val_dT, he] at g; exact g, e.T, _, rfl, DGet.k (k := .inr n) hm.1, _, rfl, ?_⟩
    rw [valT]
    cases hT : hasT e n with
    | true =>
      rcases h with ⟨q, _⟩ | ⟨_, hE⟩
      · rw [hT] at q; cases q
      · exact ifT rfl ⟨_, rfl, rfl, fun dE HE eE hE' => hE dE HE eE hE'⟩
    | false =>
      refine ifF rfl ⟨_, rfl, _, rfl, t, _, dt, _, _, rfl, ht, D.c.cl, D.c.n2, rfl, _, rfl, D2, _, rfl, by have g := DGet.k (k := .inr z) h2; rw [val_dA, he] at g; exact g, e.A, _, rfl, DGet.k (k := .inr n) hm.2, _, rfl, ?_⟩
      rw [valA]
      rcases h with ⟨q, hQ⟩ | ⟨q, hE⟩
      · rw [hT, Bool.false_or] at q
        rw [q]
        exact ifF rfl hQ
      · rw [hT, Bool.false_or] at q
        rw [q]
        exact ifT rfl ⟨_, rfl, rfl, fun dE HE eE hE' => hE dE HE eE hE'⟩
end
end K06

set_option Elab.async false
set_option linter.all false
set_option maxRecDepth 100000
set_option maxHeartbeats 0
/-! in, [..], text -/
namespace K06
open PySem PySem.Spec PyProof.Rows L2 EX2 TX
def spHas (K : PySem.W.Frag) : Sp := fun vs H Q _ => ∃ (t : Addr) (x : V) (d : PyData) (S : List Ent), vs = [.ref t, x] ∧ TbAt (He.ga K "Tables") H t S ∧ Dq H x d ∧ okD d = true ∧ Q (.bl (inT S d)) H
def spLInit (C : Addr) : Sp := fun vs H Q _ => ∃ (a dx : Addr) (t n : V), vs = [.ref a, t, n] ∧ H a = some (.ins C dx []) ∧
  ∀ H' : Hp, (∀ b o, b ≠ a → H b = some o → H' b = some o) → H' a = some (.ins C dx [("own_tables", t), ("own_name", n)]) → Q .non H'
def spGetT (K : PySem.W.Frag) : Sp := fun vs H Q E => ∃ (t : Addr) (x : V) (d : PyData) (S : List Ent), vs = [.ref t, x] ∧ TbAt (He.ga K "Tables") H t S ∧ Dq H x d ∧ okD d = true ∧
  ((inT S d = true ∧ ∀ (l dl : Addr) (H' : Hp), Evl.Ex H H' → H' l = some (.ins (He.ga K "Loader") dl [("own_tables", .ref t), ("own_name", x)]) → Q (.ref l) H') ∨ (inT S d = false ∧ Rs E H (He.ga K "UnknownLoader") "given" x))
/-- UnknownClass raised -/
def Ru (K : PySem.W.Frag) (E : XK) (H : Hp) (l n : V) : Prop := ∀ (dd : Addr) (H' : Hp), Evl.Ex H H' → H' dd = some (.xd [("word", n), ("loader", l)]) → E (.ref (He.ga K "UnknownClass")) (some dd) H'
def tsOf (S : List Ent) (z : Str) (d : PyData) : Option V := match d with
  | .str n => (ent S z).bind fun e => valV (kvT e) (.inr n)
  | _ => none
def spText (K : PySem.W.Frag) : Sp := fun vs H Q E => ∃ (t : Addr) (x y : V) (d dn : PyData) (S : List Ent), vs = [.ref t, x, y] ∧ TbAt (He.ga K "Tables") H t S ∧ Dq H x d ∧ okD d = true ∧ Dq H y dn ∧ okD dn = true ∧
  ((inT S d = false ∧ Rs E H (He.ga K "UnknownLoader") "given" x) ∨ ∃ z, d = .str z ∧ inT S d = true ∧ ((tsOf S z dn = none ∧ Ru K E H x y) ∨ ∃ v, tsOf S z dn = some v ∧ Q v H))
section
variable {P : Program} {w : World} {K : PySem.W.Frag} {mg : Str → Option Value} {base : Heap} {f : Addr} {fd : FuncData}
abbrev sTables___contains__ : Stmt := inClass (top 41) 16
abbrev nTables___contains__ : List Str := ["self", "obj"]
theorem scTables___contains__ : FnScope nTables___contains__ ["self", "obj"] (defScope sTables___contains__) := ⟨rfl, rfl, rfl, by decide +kernel, rfl, by decide +kernel, by decide +kernel⟩
theorem okTables___contains__ (F : FunD K "__contains__" "Tables.__contains__" (defArgs sTables___contains__) (defBody sTables___contains__) (defScope sTables___contains__) [] [] f fd) (D : TK P w K mg base) : FnOk P w K mg base CX0 1 f fd ["self", "obj"] (spHas K) := by
  have T := D.t
  refine F.ok scTables___contains__ (fun vs H Q E h => ?_) (fun cdv A outer s H vs Q E hr h => ?_)
  · obtain ⟨t, x, d, S, rfl, _⟩ := h
    rfl
  · obtain ⟨t, x, d, S, rfl, ⟨D1, D2, D3, ⟨dt, ht⟩, h1, h2, h3, h4⟩, hx, ho, hQ⟩ := h
    refine ⟨_, PSs.nox (pss_one (ps_ret (pe_and (pe_callB call_isi rfl T.isi boot_isi (pa_cons (pv 1) (pa_cons (pe_bltn rfl T.str boot_str (v := .ty "str") rfl) pa_nil))) (pe_one (pe_cmp (pc_din (hu1 hr) (pv 1) (pe_fld (pv 0) rfl))))))), ?_⟩
    refine ⟨_, rfl, _, _, _, _, isStrD d, rfl, .ty "str", ty_of hx, kit_ty (kit_strD d), _, rfl, ?_⟩
    cases hs : isStrD d with
    | false =>
      refine ifF rfl ?_
      have hk : inT S d = false := by cases d <;> first | rfl | cases hs
      rw [hk] at hQ
      exact hQ
    | true =>
      obtain ⟨z, rfl⟩ : ∃ z, d = .str z := by cases d <;> first | exact ⟨_, rfl⟩ | cases hs
      cases hx
      refine ifT rfl ⟨_, rfl, _, rfl, t, _, dt, _, _, rfl, ht, D.c.cl, D.c.n1, rfl, D1, _, rfl, DGet.k (k := .inr z) h1, ?_⟩
      rw [show (valV (dT S) (.inr z)).isSome = inT S (.str z) from strKey_dT S (.str z)]
      exact hQ
abbrev sLoader___init__ : Stmt := inClass (top 40) 0
abbrev nLoader___init__ : List Str := ["self", "tables", "name"]
theorem scLoader___init__ : FnScope nLoader___init__ ["self", "tables", "name"] (defScope sLoader___init__) := ⟨rfl, rfl, rfl, by decide +kernel, rfl, by decide +kernel, by decide +kernel⟩
theorem okLoader___init__ (F : FunD K "__init__" "Loader.__init__" (defArgs sLoader___init__) (defBody sLoader___init__) (defScope sLoader___init__) [] [] f fd) (D : TK P w K mg base) : FnOk P w K mg base CX0 1 f fd ["self", "tables", "name"] (spLInit (He.ga K "Loader")) := by
  have T := D.t
  refine F.ok scLoader___init__ (fun vs H Q E h => ?_) (fun cdv A outer s H vs Q E hr h => ?_)
  · obtain ⟨a, dx, t, n, rfl, _⟩ := h
    rfl
  · obtain ⟨a, dx, t, n, rfl, ha, hQ⟩ := h
    refine ⟨_, PSs.nox (pss_cons (ps_asg (pv 1) (pg_fld (pv 0)))
      (pss_one (ps_asg (pv 2) (pg_fld (pv 0))))), ?_⟩
    refine ⟨_, rfl, _, rfl, a, _, dx, [], rfl, ha, D.clL, D.nL1, by decide, ?_⟩
    refine ⟨_, rfl, _, rfl, a, _, dx, [("own_tables", t)], rfl, upd_same, D.clL, D.nL2, by simp, ?_⟩
    exact hQ _ (fun b o hb e => (upd_ne hb).trans ((upd_ne hb).trans e)) upd_same
abbrev sTables___getitem__ : Stmt := inClass (top 41) 15
abbrev nTables___getitem__ : List Str := ["self", "name"]
theorem scTables___getitem__ : FnScope nTables___getitem__ ["self", "name"] (defScope sTables___getitem__) := ⟨rfl, rfl, rfl, by decide +kernel, rfl, by decide +kernel, by decide +kernel⟩
theorem okTables___getitem__ (F : FunD K "__getitem__" "Tables.__getitem__" (defArgs sTables___getitem__) (defBody sTables___getitem__) (defScope sTables___getitem__) [] [] f fd) (D : TK P w K mg base) : FnOk P w K mg base (L2.CX P w) 5 f fd ["self", "name"] (spGetT K) := by
  have T := D.t
  obtain ⟨fdL, FL⟩ := D.fl___init__
  have GL := okLoader___init__ (P := P) (w := w) (base := base) FL D
  have bL : Binds K fdL ["self", "tables", "name"] [] := FunD.bindsN FL fun _ _ _ _ _ _ us hl => match us, hl with | [_, _, _], _ => rfl
  obtain ⟨fdm_check_loader, Fm_check_loader⟩ := D.f_check_loader
  have Gm_check_loader := okTables_check_loader (P := P) (w := w) (base := base) Fm_check_loader D
  have bm_check_loader : Binds K fdm_check_loader ["self", "name"] [] := FunD.bindsN Fm_check_loader fun _ _ _ _ _ _ us hl => match us, hl with | [_, _], _ => rfl
  refine F.ok scTables___getitem__ (fun vs H Q E h => ?_) (fun cdv A outer s H vs Q E hr h => ?_)
  · obtain ⟨t, x, d, S, rfl, _⟩ := h
    rfl
  · obtain ⟨t, x, d, S, rfl, hT, hx, ho, h⟩ := h
    refine ⟨_, (pss_cons (ps_expr (pe_meth (pv 0) D.c.cl D.m_check_loader (Gm_check_loader.imp spCkT_X) (hr.mono (by decide)) bm_check_loader .nil (passes_call (takes_of rfl rfl rfl rfl) fun _ _ _ _ h => h) (pa_cons (pv 1) pa_nil)))
      (pss_one (ps_ret (pe_make D.mkL GL (hr.mono (by decide)) rfl D.hL bL .nil pass0 (pa_cons (pv 0) (pa_cons (pv 1) pa_nil)))))), ?_⟩
    have hT0 := hT
    obtain ⟨D1, D2, D3, ⟨dt, ht⟩, h1, h2, h3, h4⟩ := hT0
    refine ⟨_, rfl, t, dt, _, rfl, ht, rfl, _, rfl, t, x, d, S, rfl, hT, hx, ho, ?_⟩
    rcases h with ⟨e, hQ⟩ | ⟨e, hE⟩
    · refine .inl ⟨e, _, rfl, _, rfl, fun l dl hl hdl hne => ?_⟩
      have eX : ∀ b o, H b = some o → b ≠ l := fun b o q z => by rw [z, hl] at q; cases q
      refine ⟨l, dl, .ref t, x, rfl, upd_same, fun H' k hl' => ⟨rfl, hQ l dl H' (fun b o q => ?_) hl'⟩⟩
      refine k b o (eX b o q) ?_
      rw [upd_ne (eX b o q), upd_ne (by rintro rfl; rw [hdl] at q; cases q)]
      exact q
    · exact .inr ⟨e, hE⟩
abbrev sTables_text : Stmt := inClass (top 41) 12
abbrev nTables_text : List Str := ["self", "loader", "name"]
theorem scTables_text : FnScope nTables_text ["self", "loader", "name"] (defScope sTables_text) := ⟨rfl, rfl, rfl, by decide +kernel, rfl, by decide +kernel, by decide +kernel⟩
theorem okTables_text (F : FunD K "text" "Tables.text" (defArgs sTables_text) (defBody sTables_text) (defScope sTables_text) [] [] f fd) (D : TK P w K mg base) : FnOk P w K mg base (L2.CX P w) 4 f fd ["self", "loader", "name"] (spText K) := by
  have T := D.t
  obtain ⟨fdE_uc, GE_uc, bE_uc⟩ := D.uc.fn
  obtain ⟨fdm_check_loader, Fm_check_loader⟩ := D.f_check_loader
  have Gm_check_loader := okTables_check_loader (P := P) (w := w) (base := base) Fm_check_loader D
  have bm_check_loader : Binds K fdm_check_loader ["self", "name"] [] := FunD.bindsN Fm_check_loader fun _ _ _ _ _ _ us hl => match us, hl with | [_, _], _ => rfl
  refine F.ok scTables_text (fun vs H Q E h => ?_) (fun cdv A outer s H vs Q E hr h => ?_)
  · obtain ⟨t, x, y, d, dn, S, rfl, _⟩ := h
    rfl
  · obtain ⟨t, x, y, d, dn, S, rfl, hT, hx, ho, hy, hn, h⟩ := h
    refine ⟨_, (pss_cons (ps_expr (pe_meth (pv 0) D.c.cl D.m_check_loader (Gm_check_loader.imp spCkT_X) (hr.mono (by decide)) bm_check_loader .nil (passes_call (takes_of rfl rfl rfl rfl) fun _ _ _ _ h => h) (pa_cons (pv 1) pa_nil)))
      (pss_cons (ps_if (PW.pt (pw_or (pt_not (pt_val (pe_callB call_isi rfl T.isi boot_isi (pa_cons (pv 2) (pa_cons (pe_bltn rfl T.str boot_str (v := .ty "str") rfl) pa_nil))))) (pw_or1 (pt_cmp (pc_dnotin (hu1 hr) (pv 2) (pe_dget (hu1 hr) (pe_fld (pv 0) rfl) (pv 1) (fun _ _ => rfl)))))))
        (pss_one (ps_raise rfl (takes_of rfl rfl rfl rfl) (pmk_xk D.uc.g.t D.uc.g.at_ D.uc.g.ty GE_uc (hr.mono (by decide)) bE_uc rfl D.uc.hm (by decide) (pa_cons (pv 1) (pa_cons (pv 2) pa_nil)))))
        pss_nil)
      (pss_one (ps_ret (pe_dget (hu1 hr) (pe_dget (hu1 hr) (pe_fld (pv 0) rfl) (pv 1) (fun _ _ => rfl)) (pv 2) (fun _ _ => rfl)))))), ?_⟩
    have hT0 := hT
    obtain ⟨D1, D2, D3, ⟨dt, ht⟩, h1, h2, h3, h4⟩ := hT0
    refine ⟨_, rfl, t, dt, _, rfl, ht, rfl, _, rfl, t, x, d, S, rfl, hT, hx, ho, ?_⟩
    rcases h with ⟨e, hE⟩ | ⟨z, rfl, e, h⟩
    · exact .inr ⟨e, hE⟩
    refine .inl ⟨e, ?_⟩
    cases hx
    obtain ⟨en, hen⟩ : ∃ en, ent S z = some en := Option.isSome_iff_exists.mp e
    have hm := h4 en (ent_mem hen)
    have gD : DGet H D1 (.str z) (some (.ref en.T)) := by have g := DGet.k (k := .inr z) h1; rw [val_dT, hen] at g; exact g
    have hts : ∀ n, tsOf S z (.str n) = valV (kvT en) (.inr n) := fun n => by show (ent S z).bind _ = _; rw [hen]; rfl
    refine ⟨_, rfl, _, _, _, _, isStrD dn, rfl, .ty "str", ty_of hy, kit_ty (kit_strD dn), _, rfl, ?_⟩
    cases hs : isStrD dn with
    | false =>
      have hk : tsOf S z dn = none := by cases dn <;> first | rfl | cases hs
      rcases h with ⟨_, hE⟩ | ⟨v, e2, _⟩
      · exact ifT rfl ⟨_, rfl, _, rfl, rfl, fun dE HE eE hE' => hE dE HE eE hE'⟩
      · rw [hk] at e2; cases e2
    | true =>
      obtain ⟨n, rfl⟩ : ∃ n, dn = .str n := by cases dn <;> first | exact ⟨_, rfl⟩ | cases hs
      cases hy
      refine ifF rfl ⟨_, rfl, _, rfl, t, _, dt, _, _, rfl, ht, D.c.cl, D.c.n1, rfl, _, rfl, D1, _, rfl, gD, en.T, _, rfl, DGet.k (k := .inr n) hm.1, _, rfl, ?_⟩
      rw [hts] at h
      rcases h with ⟨e2, hE⟩ | ⟨v, e2, hQ⟩
      · rw [e2]
        exact ifT rfl ⟨_, rfl, _, rfl, rfl, fun dE HE eE hE' => hE dE HE eE hE'⟩
      · rw [e2]
        refine ifF rfl ⟨_, rfl, t, _, dt, _, _, rfl, ht, D.c.cl, D.c.n1, rfl, _, rfl, D1, _, rfl, gD, _, rfl, en.T, v, rfl, ?_, hQ⟩
        have g := DGet.k (k := .inr n) hm.1
        rw [e2] at g
        exact g
end
end K06

set_option Elab.async false
set_option linter.all false
set_option maxRecDepth 100000
set_option maxHeartbeats 0
/-! ways of names that lead nowhere -/
namespace K06
open PySem PySem.Spec PyProof.Rows L2 EX2 TX
/-- next_of a loader that asks nobody for the name, its rest None -/
def spNext (K : PySem.W.Frag) : Sp := fun vs H Q _ => ∃ (t : Addr) (z n : Str) (S : List Ent) (e : Ent), vs = [.ref t, .str z, .str n] ∧ TbAt (He.ga K "Tables") H t S ∧ ent S z = some e ∧ hasA e n = false ∧ Q .non H
theorem ex_noH {H H1 : Hp} {q : Addr} (e : Evl.Ex H H1) (h : H1 q = none) : H q = none := by
  cases z : H q with
  | none => rfl
  | some o => have := e _ _ z; rw [h] at this; cases this
section
variable {P : Program} {w : World} {K : PySem.W.Frag} {mg : Str → Option Value} {base : Heap} {f : Addr} {fd : FuncData}
abbrev sTables_parts : Stmt := inClass (top 41) 20
abbrev nTables_parts : List Str := ["self"]
theorem scTables_parts : FnScope nTables_parts ["self"] (defScope sTables_parts) := ⟨rfl, rfl, rfl, by decide +kernel, rfl, by decide +kernel, by decide +kernel⟩
theorem okTables_parts (F : FunD K "parts" "Tables.parts" (defArgs sTables_parts) (defBody sTables_parts) (defScope sTables_parts) [] [] f fd) (D : TK P w K mg base) : FnOk P w K mg base CX0 1 f fd ["self"] (fun vs H Q _ => ∃ (t D1 D2 D3 : Addr), vs = [.ref t] ∧ TObj (He.ga K "Tables") H t D1 D2 D3 ∧ ∀ L, H L = none → Q (.ref L) (upd H L (.lst [.ref D1, .ref D2, .ref D3]))) := by
  have T := D.t
  refine F.ok scTables_parts (fun vs H Q E h => ?_) (fun cdv A outer s H vs Q E hr h => ?_)
  · obtain ⟨t, D1, D2, D3, rfl, _⟩ := h
    rfl
  · obtain ⟨t, D1, D2, D3, rfl, ⟨dt, ht⟩, hQ⟩ := h
    refine ⟨_, PSs.nox (pss_one (ps_ret (pe_lst (pa_cons (pe_fld (pv 0) rfl) (pa_cons (pe_fld (pv 0) rfl) (pa_cons (pe_fld (pv 0) rfl) pa_nil)))))), ?_⟩
    exact ⟨_, rfl, t, _, dt, _, _, rfl, ht, D.c.cl, D.c.n1, rfl, _, rfl, t, _, dt, _, _, rfl, ht, D.c.cl, D.c.n2, rfl, _, rfl, t, _, dt, _, _, rfl, ht, D.c.cl, D.c.n3, rfl, le_line (by simp), fun L hL => hQ L hL⟩
abbrev sTables_next_of : Stmt := inClass (top 41) 9
abbrev nTables_next_of : List Str := ["self", "loader", "name"]
theorem scTables_next_of : FnScope nTables_next_of ["self", "loader", "name"] (defScope sTables_next_of) := ⟨rfl, rfl, rfl, by decide +kernel, rfl, by decide +kernel, by decide +kernel⟩
theorem okTables_next_of (F : FunD K "next_of" "Tables.next_of" (defArgs sTables_next_of) (defBody sTables_next_of) (defScope sTables_next_of) [] [] f fd) (D : TK P w K mg base) : FnOk P w K mg base CX0 1 f fd ["self", "loader", "name"] (spNext K) := by
  have T := D.t
  refine F.ok scTables_next_of (fun vs H Q E h => ?_) (fun cdv A outer s H vs Q E hr h => ?_)
  · obtain ⟨t, z, n, S, e, rfl, _⟩ := h
    rfl
  · obtain ⟨t, z, n, S, e, rfl, ⟨D1, D2, D3, ⟨dt, ht⟩, h1, h2, h3, h4⟩, he, ha, hQ⟩ := h
    refine ⟨_, PSs.nox (pss_one (ps_ret (pe_dget2 (hu1 hr) (pe_dget (hu1 hr) (pe_fld (pv 0) rfl) (pv 1) (fun _ _ => rfl)) (pv 2) (pe_dget (hu1 hr) (pe_fld (pv 0) rfl) (pv 1) (fun _ _ => rfl)) ⟨rfl, rfl, rfl, rfl⟩))), ?_⟩
    have hm := h4 e (ent_mem he)
    refine ⟨_, rfl, t, _, dt, _, _, rfl, ht, D.c.cl, D.c.n2, rfl, _, rfl, D2, _, rfl, by have g := DGet.k (k := .inr z) h2; rw [val_dA, he] at g; exact g, ?_⟩
    refine ⟨e.A, rfl, .inl ⟨_, .inl hm.2⟩, _, rfl, _, rfl, t, _, dt, _, _, rfl, ht, D.c.cl, D.c.n3, rfl, _, rfl, D3, _, rfl, by have g := DGet.k (k := .inr z) h3; rw [val_dR, he] at g; exact g, ?_⟩
    refine ⟨_, DGet.k (k := .inr n) hm.2, ?_⟩
    have q := valA e n
    rw [ha] at q
    cases hv : valV (kvA e) (.inr n) with
    | none => exact hQ
    | some v => rw [hv] at q; cases q
def spWay (K : PySem.W.Frag) : Sp := fun vs H Q E => ∃ (t : Addr) (x y : V) (d dn : PyData) (S : List Ent), vs = [.ref t, x, y] ∧ TbAt (He.ga K "Tables") H t S ∧ Dq H x d ∧ okD d = true ∧
  ((inT S d = false ∧ Rs E H (He.ga K "UnknownLoader") "given" x) ∨ (inT S d = true ∧ Dq H y dn ∧ okD dn = true ∧
    ((nameD dn = false ∧ Rs E H (He.ga K "InvalidName") "given" y) ∨ ∃ z n e, d = .str z ∧ dn = .str n ∧ nameD dn = true ∧ ent S z = some e ∧ hasT e n = false ∧ hasA e n = false ∧ ∀ r H', Evl.Ex H H' → H' r = some (.tup []) → Q (.ref r) H')))
abbrev sTables_way : Stmt := inClass (top 41) 10
abbrev nTables_way : List Str := ["self", "loader", "name", "found"]
theorem scTables_way : FnScope nTables_way ["self", "loader", "name"] (defScope sTables_way) := ⟨rfl, rfl, rfl, by decide +kernel, rfl, by decide +kernel, by decide +kernel⟩
theorem okTables_way (F : FunD K "way" "Tables.way" (defArgs sTables_way) (defBody sTables_way) (defScope sTables_way) [] [] f fd) (D : TK P w K mg base) : FnOk P w K mg base (L2.CX P w) 4 f fd ["self", "loader", "name"] (spWay K) := by
  have T := D.t
  obtain ⟨fdE_iN, GE_iN, bE_iN⟩ := D.iN.fn
  obtain ⟨fdm_check_loader, Fm_check_loader⟩ := D.f_check_loader
  have Gm_check_loader := okTables_check_loader (P := P) (w := w) (base := base) Fm_check_loader D
  have bm_check_loader : Binds K fdm_check_loader ["self", "name"] [] := FunD.bindsN Fm_check_loader fun _ _ _ _ _ _ us hl => match us, hl with | [_, _], _ => rfl
  obtain ⟨fdm_next_of, Fm_next_of⟩ := D.f_next_of
  have Gm_next_of := okTables_next_of (P := P) (w := w) (base := base) Fm_next_of D
  have bm_next_of : Binds K fdm_next_of ["self", "loader", "name"] [] := FunD.bindsN Fm_next_of fun _ _ _ _ _ _ us hl => match us, hl with | [_, _, _], _ => rfl
  obtain ⟨fis_name, fdis_name, gis_name, Fis_name⟩ := D.is_name
  have Gis_name := okis_name (P := P) (base := base) Fis_name D.d
  have bis_name : Binds K fdis_name ["value"] [] := Fis_name.bindsN fun _ _ _ _ _ _ us hl => match us, hl with | [_], _ => rfl
  refine F.ok scTables_way (fun vs H Q E h => ?_) (fun cdv A outer s H vs Q E hr h => ?_)
  · obtain ⟨t, x, y, d, dn, S, rfl, _⟩ := h
    rfl
  · obtain ⟨t, x, y, d, dn, S, rfl, hT, hx, ho, h⟩ := h
    refine ⟨_, (pss_cons (ps_expr (pe_meth (pv 0) D.c.cl D.m_check_loader (Gm_check_loader.imp spCkT_X) (hr.mono (by decide)) bm_check_loader .nil (passes_call (takes_of rfl rfl rfl rfl) fun _ _ _ _ h => h) (pa_cons (pv 1) pa_nil)))
      (pss_cons (ps_if (pt_not (pt_val (pe_call Gis_name (hr.mono (by decide)) rfl gis_name Fis_name.kp bis_name .nil pass0 (pa_cons (pv 2) pa_nil))))
        (pss_one (ps_raise rfl (takes_of rfl rfl rfl rfl) (pmk_xk D.iN.g.t D.iN.g.at_ D.iN.g.ty GE_iN (hr.mono (by decide)) bE_iN rfl D.iN.hm (by decide) (pa_cons (pv 2) pa_nil))))
        pss_nil)
      (pss_cons (ps_set (i := 3) scTables_way.nd rfl (Or.inl rfl) (pe_lst pa_nil))
      (PSs.nox (pss_cons (ps_while PassesOwn.never (pt_cmpR op_notN (pv 1) pe_non (nomark _))
        (pss_cons (ps_expr (pe_bm PySem.F.plainAttrs_list PySem.F.slot_list_append PySem.F.type_list_append mt_append (pv 3) (pa_cons (pv 1) pa_nil)))
        (pss_cons (ps_if (pt_cmp (pc_din (hu1 hr) (pv 2) (pe_dget (hu1 hr) (pe_fld (pv 0) rfl) (pv 1) (fun _ _ => rfl))))
          (pss_one (ps_ret (pe_callTy call_tuple_of rfl T.tup boot_tuple (pa_cons (pv 3) pa_nil))))
          pss_nil)
        (pss_one (ps_set (i := 1) scTables_way.nd rfl (Or.inl rfl) (pe_meth (pv 0) D.c.cl D.m_next_of Gm_next_of (hr.mono (by decide)) bm_next_of .nil pass0 (pa_cons (pv 1) (pa_cons (pv 2) pa_nil))))))))
      (pss_one (ps_ret (pe_tup pa_nil)))))))), ?_⟩
    have hT0 := hT
    obtain ⟨D1, D2, D3, ⟨dt, ht⟩, h1, h2, h3, h4⟩ := hT0
    refine ⟨_, rfl, t, dt, _, rfl, ht, rfl, _, rfl, t, x, d, S, rfl, hT, hx, ho, ?_⟩
    rcases h with ⟨e, hE⟩ | ⟨e, hy, hn, h⟩
    · exact .inr ⟨e, hE⟩
    refine .inl ⟨e, _, rfl, y, dn, rfl, hy, hn, fun H1 e1 => ⟨_, rfl, ?_⟩⟩
    rcases h with ⟨e2, hE⟩ | ⟨z, n, en, rfl, rfl, hnm, hen, hnT, hnA, hQ⟩
    · rw [e2]
      exact ifT rfl ⟨_, rfl, rfl, fun dE HE eE hE' => hE dE HE (e1.trans eE) hE'⟩
    rw [hnm]
    refine ifF rfl ⟨Nat.zero_le _, fun L hL => ?_⟩
    cases hx
    cases hy
    have e2 := Evl.Ex.new (o := .lst []) hL
    have e12 := e1.trans e2
    have hLL := upd_same (H := H1) (a := L) (o := .lst [])
    have hHL : H L = none := ex_noH e1 hL
    generalize upd H1 L (.lst []) = H2 at e2 e12 hLL
    refine ⟨fun m σ H' => (m = 1 ∧ σ = [some (.ref t), some (.str z), some (.str n), some (.ref L)] ∧ Evl.Ex H H' ∧ H' L = some (.lst [])) ∨ (m = 0 ∧ σ = [some (.ref t), some .non, some (.str n), some (.ref L)] ∧ Evl.Ex H H'), ⟨1, .inl ⟨rfl, rfl, e12, hLL⟩⟩, ?_⟩
    rintro m σ H3 (⟨rfl, rfl, e3, hL3⟩ | ⟨rfl, rfl, e3⟩)
    · refine ⟨_, rfl, rfl, _, rfl, ?_⟩
      refine ifT rfl ⟨fun σ' H' => σ' = [some (.ref t), some .non, some (.str n), some (.ref L)] ∧ Evl.Ex H H', fun σ' H' q => ⟨0, by decide, .inr ⟨rfl, q⟩⟩, ?_⟩
      refine ⟨_, rfl, .inl ⟨rfl, _, SqL.of hL3⟩, _, rfl, L, [], _, rfl, rfl, hL3, Nat.lt_of_lt_of_le (show 0 < 1000 by decide) (le_line (Nat.le_refl _)), ?_⟩
      have e4 : Evl.Ex H (upd H3 L (.lst ([] ++ [.str z]))) := e3.mut hHL
      generalize upd H3 L (.lst ([] ++ [.str z])) = H4 at e4
      have hm := h4 en (ent_mem hen)
      refine ⟨_, rfl, _, rfl, t, _, dt, _, _, rfl, e4 _ _ ht, D.c.cl, D.c.n1, rfl, _, rfl, D1, _, rfl, by have g := DGet.k (k := .inr z) (e4 _ _ h1); rw [val_dT, hen] at g; exact g, en.T, _, rfl, DGet.k (k := .inr n) (e4 _ _ hm.1), _, rfl, ?_⟩
      rw [valT, hnT]
      refine ifF rfl ⟨_, rfl, t, dt, _, rfl, e4 _ _ ht, rfl, _, rfl, _, rfl, t, z, n, S, en, rfl, hT.ext e4, hen, hnA, ?_⟩
      exact ⟨rfl, e4⟩
    · refine ⟨_, rfl, rfl, _, rfl, ?_⟩
      refine ifF rfl ⟨Nat.zero_le _, fun r hr0 => ?_⟩
      exact hQ r _ (e3.trans (Evl.Ex.new hr0)) upd_same
end
end K06

set_option Elab.async false
set_option linter.all false
set_option maxRecDepth 10000
set_option maxHeartbeats 1000000
/-! the plain law of least tables: rows of sets, grown along leads until nothing changes -/
namespace SL
open PySem TX
abbrev Row : Type := List (Option (List Str))
abbrev Tab : Type := List (Option Row)
theorem nodup_len {α : Type} [DecidableEq α] : ∀ (l D : List α), l.Nodup → (∀ x ∈ l, x ∈ D) → l.length ≤ D.length
  | [], D, _, _ => Nat.zero_le _
  | x :: l, D, h, hs => by
    obtain ⟨h1, h2⟩ := List.nodup_cons.mp h
    have hx := hs x List.mem_cons_self
    have ih := nodup_len l (D.erase x) h2 fun y hy => (List.mem_erase_of_ne (fun e => h1 (by rw [← e]; exact hy))).mpr (hs y (List.mem_cons_of_mem _ hy))
    rw [List.length_erase_of_mem hx] at ih
    have : 0 < D.length := List.length_pos_of_mem hx
    rw [List.length_cons]
    omega
theorem nodup_same {l D : List Str} (h : Srt l) (hD : Srt D) (hs : ∀ x ∈ l, x ∈ D) (hl : D.length ≤ l.length) : l = D := by
  refine h.ext hD fun k => ⟨hs k, fun hk => ?_⟩
  rcases Classical.em (k ∈ l) with q | q
  · exact q
  · exfalso
    have := nodup_len (k :: l) D (List.nodup_cons.mpr ⟨q, h.nodup⟩) fun x hx => by
      rcases List.mem_cons.mp hx with rfl | hx
      · exact hk
      · exact hs x hx
    rw [List.length_cons] at this
    omega
/-! ### sets -/
def leS : Option (List Str) → Option (List Str) → Prop
  | _, none => True
  | none, some _ => False
  | some x, some y => ∀ k ∈ x, k ∈ y
def jS : Option (List Str) → Option (List Str) → Option (List Str)
  | some a, some b => some (canon (a ++ b))
  | _, _ => none
def CanS (U : List Str) (s : Option (List Str)) : Prop := ∀ l, s = some l → Srt l ∧ ∀ k ∈ l, k ∈ U
theorem leS_refl : ∀ s, leS s s
  | none => trivial
  | some _ => fun _ h => h
theorem leS_trans : ∀ {a b c}, leS a b → leS b c → leS a c
  | _, _, none, _, _ => trivial
  | none, some _, some _, h, _ => h.elim
  | none, none, some _, _, h => h.elim
  | some _, none, some _, _, h => h.elim
  | some _, some _, some _, h, g => fun k hk => g k (h k hk)
theorem jS_l : ∀ a b, leS a (jS a b)
  | none, _ => by cases ‹Option (List Str)› <;> trivial
  | some _, none => trivial
  | some a, some b => fun k hk => mem_canon.mpr (List.mem_append.mpr (.inl hk))
theorem jS_r : ∀ a b, leS b (jS a b)
  | none, _ => by cases ‹Option (List Str)› <;> trivial
  | some _, none => trivial
  | some a, some b => fun k hk => mem_canon.mpr (List.mem_append.mpr (.inr hk))
theorem jS_lub : ∀ {a b c}, leS a c → leS b c → leS (jS a b) c
  | _, _, none, _, _ => trivial
  | none, _, some _, h, _ => h.elim
  | some _, none, some _, _, h => h.elim
  | some a, some b, some c, h, g => fun k hk => (List.mem_append.mp (mem_canon.mp hk)).elim (h k) (g k)
theorem jS_can {U a b} (ha : CanS U a) (hb : CanS U b) : CanS U (jS a b) := by
  intro l h
  cases a with
  | none => cases h
  | some x =>
    cases b with
    | none => cases h
    | some y =>
      obtain rfl := Option.some.inj h
      refine ⟨srt_canon _, fun k hk => ?_⟩
      rcases List.mem_append.mp (mem_canon.mp hk) with q | q
      · exact (ha x rfl).2 k q
      · exact (hb y rfl).2 k q
theorem leS_anti {U} : ∀ {a b}, CanS U a → CanS U b → leS a b → leS b a → a = b
  | none, none, _, _, _, _ => rfl
  | none, some _, _, _, h, _ => h.elim
  | some _, none, _, _, _, h => h.elim
  | some x, some y, ha, hb, h, g => congrArg some ((ha x rfl).1.ext (hb y rfl).1 fun k => ⟨h k, g k⟩)
def rkS (U : List Str) : Option (List Str) → Nat
  | none => U.length + 1
  | some l => l.length
theorem rkS_le {U s} (h : CanS U s) : rkS U s ≤ U.length + 1 := by
  cases s with
  | none => exact Nat.le_refl _
  | some l => exact Nat.le_succ_of_le (nodup_len l U (h l rfl).1.nodup (h l rfl).2)
theorem rkS_mono {U a b} (ha : CanS U a) (hb : CanS U b) (h : leS a b) : rkS U a ≤ rkS U b ∧ (rkS U b ≤ rkS U a → a = b) := by
  cases b with
  | none =>
    cases a with
    | none => exact ⟨Nat.le_refl _, fun _ => rfl⟩
    | some x =>
      have := nodup_len x U (ha x rfl).1.nodup (ha x rfl).2
      refine ⟨rkS_le ha, fun z => ?_⟩
      have z' : U.length + 1 ≤ x.length := z
      omega
  | some y =>
    cases a with
    | none => exact h.elim
    | some x => exact ⟨nodup_len x y (ha x rfl).1.nodup h, fun z => congrArg some (nodup_same (ha x rfl).1 (hb y rfl).1 h z)⟩
/-! ### rows -/
def leR : Row → Row → Prop
  | [], [] => True
  | a :: r, b :: s => leS a b ∧ leR r s
  | _, _ => False
theorem leR_refl : ∀ r, leR r r
  | [] => trivial
  | a :: r => ⟨leS_refl a, leR_refl r⟩
theorem leR_len : ∀ {a b}, leR a b → a.length = b.length
  | [], [], _ => rfl
  | _ :: _, _ :: _, h => congrArg (· + 1) (leR_len h.2)
  | [], _ :: _, h => h.elim
  | _ :: _, [], h => h.elim
theorem leR_trans : ∀ {a b c}, leR a b → leR b c → leR a c
  | [], [], [], _, _ => trivial
  | _ :: _, _ :: _, _ :: _, h, g => ⟨leS_trans h.1 g.1, leR_trans h.2 g.2⟩
  | [], _ :: _, _, h, _ => h.elim
  | _ :: _, [], _, h, _ => h.elim
  | [], [], _ :: _, _, h => h.elim
  | _ :: _, _ :: _, [], _, h => h.elim
theorem leR_get : ∀ {a b : Row}, leR a b → ∀ {i : Nat} {s}, a[i]? = some s → ∃ t, b[i]? = some t ∧ leS s t
  | [], [], _, i, s, e => by simp at e
  | x :: a, y :: b, h, 0, s, e => by simp at e; subst e; exact ⟨y, rfl, h.1⟩
  | x :: a, y :: b, h, i + 1, s, e => by simp only [List.getElem?_cons_succ] at e ⊢; exact leR_get h.2 e
  | [], _ :: _, h, _, _, _ => h.elim
  | _ :: _, [], h, _, _, _ => h.elim
theorem leR_set : ∀ {a b : Row}, leR a b → ∀ {s t}, leS s t → ∀ (i : Nat), leR (a.set i s) (b.set i t)
  | [], [], _, _, _, _, _ => trivial
  | _ :: _, _ :: _, h, _, _, g, 0 => ⟨g, h.2⟩
  | _ :: _, _ :: _, h, _, _, g, i + 1 => ⟨h.1, leR_set h.2 g i⟩
  | [], _ :: _, h, _, _, _, _ => h.elim
  | _ :: _, [], h, _, _, _, _ => h.elim
def CanR (U : List Str) (m : Nat) (r : Row) : Prop := r.length = m ∧ ∀ s ∈ r, CanS U s
theorem CanR.tl {U m a r} (h : CanR U (m + 1) (a :: r)) : CanR U m r := ⟨Nat.succ.inj h.1, fun s hs => h.2 s (List.mem_cons_of_mem _ hs)⟩
theorem CanR.hd {U m a r} (h : CanR U m (a :: r)) : CanS U a := h.2 a List.mem_cons_self
theorem CanR.set {U m} {r : Row} (h : CanR U m r) {s} (hs : CanS U s) (i : Nat) : CanR U m (r.set i s) := by
  refine ⟨by rw [List.length_set]; exact h.1, fun t ht => ?_⟩
  rcases List.mem_or_eq_of_mem_set ht with q | q
  · exact h.2 t q
  · rw [q]; exact hs
theorem leR_anti {U} : ∀ {m a b}, CanR U m a → CanR U m b → leR a b → leR b a → a = b
  | _, [], [], _, _, _, _ => rfl
  | 0, _ :: _, _, h, _, _, _ => by cases h.1
  | m + 1, x :: a, y :: b, ha, hb, h, g => by rw [leS_anti ha.hd hb.hd h.1 g.1, leR_anti ha.tl hb.tl h.2 g.2]
  | _, [], _ :: _, _, _, h, _ => h.elim
  | _, _ :: _, [], _, _, h, _ => h.elim
def jR (a b : Row) : Row := List.zipWith jS a b
theorem jR_l : ∀ {a b : Row}, a.length = b.length → leR a (jR a b)
  | [], [], _ => trivial
  | x :: a, y :: b, h => ⟨jS_l x y, jR_l (Nat.succ.inj h)⟩
  | [], _ :: _, h => by cases h
  | _ :: _, [], h => by cases h
theorem jR_r : ∀ {a b : Row}, a.length = b.length → leR b (jR a b)
  | [], [], _ => trivial
  | x :: a, y :: b, h => ⟨jS_r x y, jR_r (Nat.succ.inj h)⟩
  | [], _ :: _, h => by cases h
  | _ :: _, [], h => by cases h
theorem jR_lub : ∀ {a b c : Row}, leR a c → leR b c → leR (jR a b) c
  | [], [], [], _, _ => trivial
  | x :: a, y :: b, z :: c, h, g => ⟨jS_lub h.1 g.1, jR_lub h.2 g.2⟩
  | [], _, _ :: _, h, _ => h.elim
  | _ :: _, _, [], h, _ => h.elim
  | [], _ :: _, [], _, h => h.elim
  | _ :: _, [], _ :: _, _, h => h.elim
theorem jR_can {U} : ∀ {m} {a b : Row}, CanR U m a → CanR U m b → CanR U m (jR a b)
  | _, [], [], h, _ => ⟨h.1, fun s hs => by cases hs⟩
  | 0, _ :: _, _, h, _ => by cases h.1
  | m + 1, x :: a, y :: b, ha, hb => by
    obtain ⟨l, k⟩ := jR_can ha.tl hb.tl
    refine ⟨congrArg (· + 1) l, fun s hs => ?_⟩
    rcases List.mem_cons.mp hs with rfl | hs
    · exact jS_can ha.hd hb.hd
    · exact k s hs
  | _, [], _ :: _, ha, hb => by have := ha.1.trans hb.1.symm; cases this
  | _ + 1, _ :: _, [], ha, hb => by have := ha.1.trans hb.1.symm; cases this
def rkR (U : List Str) : Row → Nat
  | [] => 0
  | s :: r => rkS U s + rkR U r
theorem rkR_le {U} : ∀ {m r}, CanR U m r → rkR U r ≤ m * (U.length + 1)
  | 0, [], _ => Nat.zero_le _
  | 0, _ :: _, h => by cases h.1
  | m + 1, [], h => by cases h.1
  | m + 1, s :: r, h => by
    have h1 := rkS_le h.hd
    have h2 := rkR_le h.tl
    rw [Nat.succ_mul]
    show rkS U s + rkR U r ≤ _
    omega
theorem rkR_mono {U} : ∀ {m a b}, CanR U m a → CanR U m b → leR a b → rkR U a ≤ rkR U b ∧ (rkR U b ≤ rkR U a → a = b)
  | _, [], [], _, _, _ => ⟨Nat.le_refl _, fun _ => rfl⟩
  | 0, _ :: _, _, h, _, _ => by cases h.1
  | m + 1, x :: a, y :: b, ha, hb, h => by
    obtain ⟨h1, h2⟩ := rkS_mono ha.hd hb.hd h.1
    obtain ⟨h3, h4⟩ := rkR_mono ha.tl hb.tl h.2
    refine ⟨Nat.add_le_add h1 h3, fun z => ?_⟩
    have z' : rkS U y + rkR U b ≤ rkS U x + rkR U a := z
    rw [h2 (by omega), h4 (by omega)]
  | _, [], _ :: _, _, _, h => h.elim
  | _, _ :: _, [], _, _, h => h.elim
/-- the row behind a lead -/
def newR : Option Row → Row → Row
  | none, r => r
  | some a, r => jR a r
theorem newR_can {U m o r} (ho : ∀ a, o = some a → CanR U m a) (hr : CanR U m r) : CanR U m (newR o r) := by
  cases o with
  | none => exact hr
  | some a => exact jR_can (ho a rfl) hr
theorem newR_r {U m o r} (ho : ∀ a, o = some a → CanR U m a) (hr : CanR U m r) : leR r (newR o r) := by
  cases o with
  | none => exact leR_refl r
  | some a => exact jR_r ((ho a rfl).1.trans hr.1.symm)
theorem newR_l {U m a r} (ho : CanR U m a) (hr : CanR U m r) : leR a (newR (some a) r) := jR_l (ho.1.trans hr.1.symm)
theorem newR_same {U m a r} (ha : CanR U m a) (hr : CanR U m r) (h : leR r a) : newR (some a) r = a :=
  leR_anti (jR_can ha hr) ha (jR_lub (leR_refl a) h) (newR_l ha hr)
/-! ### tables -/
section
variable (U : List Str) (m n : Nat) (F : Nat → Row → List (Nat × Row)) (b : Row)
/-- leads keep rows as they should be, and grow with them -/
structure Mono : Prop where
  can : ∀ {i r}, i < n → CanR U m r → ∀ p ∈ F i r, CanR U m p.2
  mono : ∀ {i r r'}, i < n → CanR U m r → CanR U m r' → leR r r' → ∀ p ∈ F i r, ∃ p' ∈ F i r', p'.1 = p.1 ∧ leR p.2 p'.2
def Good (T : Tab) : Prop := T.length = n ∧ ∀ r, some r ∈ T → CanR U m r
/-- at i stands at least r -/
def At (T : Tab) (i : Nat) (r : Row) : Prop := ∃ r', T[i]? = some (some r') ∧ leR r r'
/-- all leads of i are taken in -/
def Done (T : Tab) (i : Nat) : Prop := ∀ r, T[i]? = some (some r) → ∀ p ∈ F i r, p.1 < n → At T p.1 p.2
def Closed (T : Tab) : Prop := ∀ i, i < n → Done n F T i
structure Post (T : Tab) : Prop where
  good : Good U m n T
  beg : At T 0 b
  closed : Closed n F T
/-- every closed table has at least r at i -/
def Low (i : Nat) (r : Row) : Prop := ∀ T, Post U m n F b T → At T i r
structure Least (T : Tab) : Prop where
  post : Post U m n F b T
  low : ∀ i r, T[i]? = some (some r) → Low U m n F b i r
end
section
variable {U : List Str} {m n : Nat} {F : Nat → Row → List (Nat × Row)} {b : Row}
theorem Good.row {T : Tab} {i : Nat} {r : Row} (g : Good U m n T) (h : T[i]? = some (some r)) : CanR U m r := g.2 r (List.mem_of_getElem? h)
theorem Least.uniq {A B : Tab} (a : Least U m n F b A) (c : Least U m n F b B) : A = B := by
  apply List.ext_getElem?
  intro i
  by_cases hi : i < n
  · have ha : i < A.length := by rw [a.post.good.1]; exact hi
    have hb : i < B.length := by rw [c.post.good.1]; exact hi
    rw [List.getElem?_eq_getElem ha, List.getElem?_eq_getElem hb]
    congr 1
    cases ea : A[i] with
    | none =>
      cases eb : B[i] with
      | none => rfl
      | some r =>
        obtain ⟨r', h, _⟩ := c.low i r (by rw [List.getElem?_eq_getElem hb, eb]) A a.post
        rw [List.getElem?_eq_getElem ha, ea] at h
        cases h
    | some r =>
      have hA : A[i]? = some (some r) := by rw [List.getElem?_eq_getElem ha, ea]
      obtain ⟨r', h, le⟩ := a.low i r hA B c.post
      obtain ⟨r2, h2, le2⟩ := c.low i r' h A a.post
      rw [hA] at h2
      cases h2
      have e : r = r' := leR_anti (a.post.good.row hA) (c.post.good.row h) le le2
      rw [List.getElem?_eq_getElem hb] at h
      rw [Option.some.inj h, e]
  · rw [List.getElem?_eq_none (by rw [a.post.good.1]; omega), List.getElem?_eq_none (by rw [c.post.good.1]; omega)]
theorem Low.lead (M : Mono U m n F) {i : Nat} {r : Row} (hi : i < n) (hr : CanR U m r) (h : Low U m n F b i r) {p : Nat × Row} (hp : p ∈ F i r) (ht : p.1 < n) : Low U m n F b p.1 p.2 := by
  intro T q
  obtain ⟨r', e, le⟩ := h T q
  obtain ⟨p', hp', e1, le1⟩ := M.mono hi hr (q.good.row e) le p hp
  obtain ⟨r2, e2, le2⟩ := q.closed i hi r' e p' hp' (by rw [e1]; exact ht)
  rw [e1] at e2
  exact ⟨r2, e2, leR_trans le1 le2⟩
theorem Low.new {i : Nat} {o : Option Row} {r : Row} (ho : ∀ a, o = some a → Low U m n F b i a) (h : Low U m n F b i r) : Low U m n F b i (newR o r) := by
  cases o with
  | none => exact h
  | some a =>
    intro T q
    obtain ⟨r1, e1, l1⟩ := ho a rfl T q
    obtain ⟨r2, e2, l2⟩ := h T q
    rw [e1] at e2
    cases e2
    exact ⟨r1, e1, jR_lub l1 l2⟩
/-- the room that is left -/
def rkO (U : List Str) : Option Row → Nat
  | none => 0
  | some r => 1 + rkR U r
def cap (U : List Str) (m : Nat) : Nat := 1 + m * (U.length + 1)
def pot (U : List Str) (m : Nat) : Tab → Nat
  | [] => 0
  | o :: T => (cap U m - rkO U o) + pot U m T
theorem pot_le (U : List Str) (m : Nat) : ∀ T : Tab, pot U m T ≤ T.length * cap U m
  | [] => by simp [pot]
  | o :: T => by
    have := pot_le U m T
    rw [List.length_cons, Nat.succ_mul]
    show (cap U m - rkO U o) + pot U m T ≤ _
    omega
theorem pot_set : ∀ {T : Tab} {i : Nat} {o o' : Option Row}, T[i]? = some o → rkO U o < rkO U o' → rkO U o' ≤ cap U m → pot U m (T.set i o') < pot U m T
  | [], i, o, o', h, _, _ => by simp at h
  | x :: T, 0, o, o', h, l1, l2 => by
    simp at h
    subst h
    show (cap U m - rkO U o') + pot U m T < (cap U m - rkO U x) + pot U m T
    omega
  | x :: T, i + 1, o, o', h, l1, l2 => by
    simp only [List.getElem?_cons_succ] at h
    have := pot_set (T := T) h l1 l2
    show (cap U m - rkO U x) + pot U m (T.set i o') < (cap U m - rkO U x) + pot U m T
    omega
theorem pot_new {T : Tab} {t : Nat} {o : Option Row} {r : Row} (g : Good U m n T) (h : T[t]? = some o) (hr : CanR U m r) (ne : some (newR o r) ≠ o) : pot U m (T.set t (some (newR o r))) < pot U m T := by
  have ho : ∀ a, o = some a → CanR U m a := fun a e => by subst e; exact g.row h
  have hn := newR_can ho hr
  refine pot_set h ?_ ?_
  · cases o with
    | none => show 0 < 1 + _; omega
    | some a =>
      obtain ⟨l1, l2⟩ := rkR_mono (ho a rfl) hn (newR_l (ho a rfl) hr)
      show 1 + rkR U a < 1 + rkR U (newR (some a) r)
      rcases Nat.lt_or_ge (rkR U a) (rkR U (newR (some a) r)) with z | z
      · omega
      · exact absurd (congrArg some (l2 z).symm) ne
  · have := rkR_le hn
    show 1 + rkR U _ ≤ 1 + m * (U.length + 1)
    omega
/-- a table with another row -/
theorem Good.put {T : Tab} {t : Nat} {r : Row} (g : Good U m n T) (hr : CanR U m r) : Good U m n (T.set t (some r)) := by
  refine ⟨by rw [List.length_set]; exact g.1, fun s hs => ?_⟩
  rcases List.mem_or_eq_of_mem_set hs with q | q
  · exact g.2 s q
  · cases q; exact hr
theorem At.put {T : Tab} {t i : Nat} {o : Option Row} {r x : Row} (g : Good U m n T) (h : T[t]? = some o) (hr : CanR U m r) (a : At T i x) : At (T.set t (some (newR o r))) i x := by
  obtain ⟨y, e, le⟩ := a
  by_cases hi : t = i
  · subst hi
    rw [e] at h
    cases h
    have hl : t < T.length := (List.getElem?_eq_some_iff.mp e).1
    exact ⟨_, by rw [List.getElem?_set_self hl], leR_trans le (newR_l (g.row e) hr)⟩
  · exact ⟨y, by rw [List.getElem?_set_ne hi]; exact e, le⟩
theorem At.put_self {T : Tab} {t : Nat} {o : Option Row} {r : Row} (g : Good U m n T) (h : T[t]? = some o) (hr : CanR U m r) : At (T.set t (some (newR o r))) t r := by
  have hl : t < T.length := (List.getElem?_eq_some_iff.mp h).1
  exact ⟨_, by rw [List.getElem?_set_self hl], newR_r (fun a e => by subst e; exact g.row h) hr⟩
end
end SL
set_option Elab.async false
set_option linter.all false
set_option maxRecDepth 10000
set_option maxHeartbeats 1000000
/-! the plain law of least tables: the line of work, the rounds; instructions -/
namespace SL
open PySem PySem.Spec TX
section
variable (U : List Str) (m n : Nat) (F : Nat → Row → List (Nat × Row)) (b : Row)
/-- what both ways of growing keep -/
structure Grow (T : Tab) : Prop where
  good : Good U m n T
  beg : At T 0 b
  low : ∀ i r, T[i]? = some (some r) → Low U m n F b i r
structure WInv (T : Tab) (line : List Nat) : Prop where
  g : Grow U m n F b T
  opn : ∀ i, i < n → Done n F T i ∨ i ∈ line
  lin : ∀ i ∈ line, i < n ∧ ∃ r, T[i]? = some (some r)
structure WIn (T : Tab) (line : List Nat) (x : Nat) (r0 : Row) (done : List (Nat × Row)) : Prop where
  g : Grow U m n F b T
  low0 : Low U m n F b x r0
  opn : ∀ i, i < n → i ≠ x → Done n F T i ∨ i ∈ line
  self : x ∈ line ∨ T[x]? = some (some r0)
  lin : ∀ i ∈ line, i < n ∧ ∃ r, T[i]? = some (some r)
  dn : ∀ p ∈ done, p.1 < n → At T p.1 p.2
end
section
variable {U : List Str} {m n : Nat} {F : Nat → Row → List (Nat × Row)} {b : Row} {T : Tab}
theorem put_same {t : Nat} {o : Option Row} (h : T[t]? = some o) (r : Row) (e : some (newR o r) = o) : T.set t (some (newR o r)) = T := by
  rw [e]
  apply List.ext_getElem?
  intro i
  by_cases hi : t = i
  · subst hi
    have hl := (List.getElem?_eq_some_iff.mp h).1
    rw [List.getElem?_set_self hl, h]
  · rw [List.getElem?_set_ne hi]
theorem Grow.put {t : Nat} {o : Option Row} {r : Row} (g : Grow U m n F b T) (h : T[t]? = some o) (hr : CanR U m r) (lo : Low U m n F b t r) : Grow U m n F b (T.set t (some (newR o r))) := by
  have hc : ∀ a, o = some a → CanR U m a := fun a e => by subst e; exact g.good.row h
  refine ⟨g.good.put (newR_can hc hr), g.beg.put g.good h hr, fun i s e => ?_⟩
  by_cases hi : t = i
  · subst hi
    have hl := (List.getElem?_eq_some_iff.mp h).1
    rw [List.getElem?_set_self hl] at e
    cases e
    exact Low.new (fun a ea => g.low t a (by rw [h, ea])) lo
  · rw [List.getElem?_set_ne hi] at e
    exact g.low i s e
theorem Done.put {t i : Nat} {o : Option Row} {r : Row} (g : Good U m n T) (h : T[t]? = some o) (hr : CanR U m r) (ne : t ≠ i) (d : Done n F T i) : Done n F (T.set t (some (newR o r))) i := by
  intro s e p hp ht
  rw [List.getElem?_set_ne ne] at e
  exact (d s e p hp ht).put g h hr
/-- the beginning -/
theorem grow0 (hn : 0 < n) (hb : CanR U m b) : Grow U m n F b ((List.replicate n none).set 0 (some b)) := by
  have h0 : ((List.replicate n (none : Option Row)).set 0 (some b))[0]? = some (some b) := by rw [List.getElem?_set_self (by simpa using hn)]
  refine ⟨⟨by simp, fun r hr => ?_⟩, ⟨b, h0, leR_refl b⟩, fun i r e => ?_⟩
  · rcases List.mem_or_eq_of_mem_set hr with q | q
    · have := (List.mem_replicate.mp q).2; cases this
    · cases q; exact hb
  · by_cases hi : 0 = i
    · subst hi
      rw [h0] at e
      cases e
      exact fun T q => q.beg
    · rw [List.getElem?_set_ne hi] at e
      have := (List.mem_replicate.mp (List.mem_of_getElem? e)).2
      cases this
theorem winv0 (hn : 0 < n) (hb : CanR U m b) : WInv U m n F b ((List.replicate n none).set 0 (some b)) [0] := by
  have h0 : ((List.replicate n (none : Option Row)).set 0 (some b))[0]? = some (some b) := by rw [List.getElem?_set_self (by simpa using hn)]
  refine ⟨grow0 hn hb, fun i hi => ?_, fun i hi => ?_⟩
  · by_cases h : 0 = i
    · subst h; exact .inr (List.mem_singleton.mpr rfl)
    · refine .inl fun r e => ?_
      rw [List.getElem?_set_ne h] at e
      have := (List.mem_replicate.mp (List.mem_of_getElem? e)).2
      cases this
  · obtain rfl := List.mem_singleton.mp hi
    exact ⟨hn, b, h0⟩
theorem WInv.pop {line : List Nat} {x : Nat} (w : WInv U m n F b T (line ++ [x])) : ∃ r0, T[x]? = some (some r0) ∧ x < n ∧ CanR U m r0 ∧ WIn U m n F b T line x r0 [] := by
  obtain ⟨hx, r0, e⟩ := w.lin x (List.mem_append.mpr (.inr (List.mem_singleton.mpr rfl)))
  refine ⟨r0, e, hx, w.g.good.row e, w.g, w.g.low x r0 e, fun i hi ne => ?_, .inr e, fun i hi => w.lin i (List.mem_append.mpr (.inl hi)), fun p hp => nomatch hp⟩
  rcases w.opn i hi with h | h
  · exact .inl h
  · rcases List.mem_append.mp h with h | h
    · exact .inr h
    · exact absurd (List.mem_singleton.mp h) ne
theorem WIn.skip {line : List Nat} {x : Nat} {r0 : Row} {done : List (Nat × Row)} {p : Nat × Row} (w : WIn U m n F b T line x r0 done) (h : n ≤ p.1) : WIn U m n F b T line x r0 (done ++ [p]) :=
  ⟨w.g, w.low0, w.opn, w.self, w.lin, fun q hq ht => (List.mem_append.mp hq).elim (fun h => w.dn q h ht) fun h => by rw [List.mem_singleton.mp h] at ht; omega⟩
theorem WIn.same {line : List Nat} {x : Nat} {r0 : Row} {done : List (Nat × Row)} {p : Nat × Row} {o : Option Row} (w : WIn U m n F b T line x r0 done) (h : T[p.1]? = some o) (hr : CanR U m p.2) (e : some (newR o p.2) = o) : WIn U m n F b T line x r0 (done ++ [p]) := by
  refine ⟨w.g, w.low0, w.opn, w.self, w.lin, fun q hq ht => (List.mem_append.mp hq).elim (fun h => w.dn q h ht) fun hq => ?_⟩
  rw [List.mem_singleton.mp hq]
  have := At.put_self w.g.good h hr
  rw [put_same h _ e] at this
  exact this
theorem WIn.step (M : Mono U m n F) {line : List Nat} {x : Nat} {r0 : Row} {done : List (Nat × Row)} {p : Nat × Row} {o : Option Row} (w : WIn U m n F b T line x r0 done) (hx : x < n) (h0 : CanR U m r0) (hp : p ∈ F x r0) (hn : p.1 < n) (h : T[p.1]? = some o) :
    WIn U m n F b (T.set p.1 (some (newR o p.2))) (line ++ [p.1]) x r0 (done ++ [p]) := by
  have hr := M.can hx h0 p hp
  have hl := (List.getElem?_eq_some_iff.mp h).1
  refine ⟨w.g.put h hr (w.low0.lead M hx h0 hp hn), w.low0, fun i hi ne => ?_, ?_, fun i hi => ?_, fun q hq ht => ?_⟩
  · by_cases e : p.1 = i
    · exact .inr (List.mem_append.mpr (.inr (List.mem_singleton.mpr e.symm)))
    · exact (w.opn i hi ne).imp (fun d => d.put w.g.good h hr e) fun k => List.mem_append.mpr (.inl k)
  · by_cases e : p.1 = x
    · exact .inl (List.mem_append.mpr (.inr (List.mem_singleton.mpr e.symm)))
    · rcases w.self with k | k
      · exact .inl (List.mem_append.mpr (.inl k))
      · exact .inr (by rw [List.getElem?_set_ne e]; exact k)
  · rcases List.mem_append.mp hi with k | k
    · obtain ⟨a, r, e⟩ := w.lin i k
      refine ⟨a, ?_⟩
      by_cases e2 : p.1 = i
      · subst e2; exact ⟨_, List.getElem?_set_self hl⟩
      · exact ⟨r, by rw [List.getElem?_set_ne e2]; exact e⟩
    · obtain rfl := List.mem_singleton.mp k
      exact ⟨hn, _, List.getElem?_set_self hl⟩
  · rcases List.mem_append.mp hq with k | k
    · exact (w.dn q k ht).put w.g.good h hr
    · rw [List.mem_singleton.mp k]
      exact At.put_self w.g.good h hr
theorem WIn.fin {line : List Nat} {x : Nat} {r0 : Row} (w : WIn U m n F b T line x r0 (F x r0)) : WInv U m n F b T line := by
  refine ⟨w.g, fun i hi => ?_, w.lin⟩
  by_cases e : i = x
  · subst e
    rcases w.self with k | k
    · exact .inr k
    · refine .inl fun r er p hp ht => ?_
      rw [k] at er
      cases er
      exact w.dn p hp ht
  · exact w.opn i hi e
theorem WInv.least (w : WInv U m n F b T []) : Least U m n F b T :=
  ⟨⟨w.g.good, w.g.beg, fun i hi => (w.opn i hi).elim id fun h => nomatch h⟩, w.g.low⟩
/-! ### rounds -/
variable (U m n F b) in
/-- within a round: P0 the room at its beginning -/
structure RInv (P0 : Nat) (T : Tab) (ch : Bool) (x : Nat) : Prop where
  g : Grow U m n F b T
  le : pot U m T ≤ P0
  lt : ch = true → pot U m T < P0
  dn : ch = false → ∀ i, i < x → Done n F T i
variable (U m n F b) in
structure RIn (P0 : Nat) (T : Tab) (ch : Bool) (x : Nat) (r0 : Row) (done : List (Nat × Row)) : Prop where
  g : Grow U m n F b T
  low0 : Low U m n F b x r0
  le : pot U m T ≤ P0
  lt : ch = true → pot U m T < P0
  dn : ch = false → (∀ i, i < x → Done n F T i) ∧ T[x]? = some (some r0) ∧ ∀ p ∈ done, p.1 < n → At T p.1 p.2
theorem RInv.enter {P0 : Nat} {ch : Bool} {x : Nat} {r0 : Row} (w : RInv U m n F b P0 T ch x) (h : T[x]? = some (some r0)) : RIn U m n F b P0 T ch x r0 [] :=
  ⟨w.g, w.g.low x r0 h, w.le, w.lt, fun e => ⟨w.dn e, h, fun p hp => nomatch hp⟩⟩
theorem RInv.pass {P0 : Nat} {ch : Bool} {x : Nat} (w : RInv U m n F b P0 T ch x) (h : T[x]? = some none) : RInv U m n F b P0 T ch (x + 1) :=
  ⟨w.g, w.le, w.lt, fun e i hi => by
    rcases Nat.lt_or_ge i x with k | k
    · exact w.dn e i k
    · have : i = x := by omega
      subst this
      intro r er
      rw [h] at er
      cases er⟩
theorem RIn.same {P0 : Nat} {ch : Bool} {x : Nat} {r0 : Row} {done : List (Nat × Row)} {p : Nat × Row} (w : RIn U m n F b P0 T ch x r0 done) (h : p.1 < n → ∃ o, T[p.1]? = some o ∧ some (newR o p.2) = o) (hr : CanR U m p.2) : RIn U m n F b P0 T ch x r0 (done ++ [p]) := by
  refine ⟨w.g, w.low0, w.le, w.lt, fun e => ⟨(w.dn e).1, (w.dn e).2.1, fun q hq ht => (List.mem_append.mp hq).elim (fun h => (w.dn e).2.2 q h ht) fun hq => ?_⟩⟩
  rw [List.mem_singleton.mp hq] at ht ⊢
  obtain ⟨o, h1, h2⟩ := h ht
  have := At.put_self w.g.good h1 hr
  rw [put_same h1 _ h2] at this
  exact this
theorem RIn.step (M : Mono U m n F) {P0 : Nat} {ch : Bool} {x : Nat} {r0 : Row} {done : List (Nat × Row)} {p : Nat × Row} {o : Option Row} (w : RIn U m n F b P0 T ch x r0 done) (hx : x < n) (h0 : CanR U m r0) (hp : p ∈ F x r0) (hn : p.1 < n) (h : T[p.1]? = some o) (ne : some (newR o p.2) ≠ o) :
    RIn U m n F b P0 (T.set p.1 (some (newR o p.2))) true x r0 (done ++ [p]) := by
  have hr := M.can hx h0 p hp
  have lt := pot_new w.g.good h hr ne
  exact ⟨w.g.put h hr (w.low0.lead M hx h0 hp hn), w.low0, Nat.le_of_lt (Nat.lt_of_lt_of_le lt w.le), fun _ => Nat.lt_of_lt_of_le lt w.le, fun e => nomatch e⟩
theorem RIn.leave {P0 : Nat} {ch : Bool} {x : Nat} {r0 : Row} (w : RIn U m n F b P0 T ch x r0 (F x r0)) : RInv U m n F b P0 T ch (x + 1) :=
  ⟨w.g, w.le, w.lt, fun e i hi => by
    rcases Nat.lt_or_ge i x with k | k
    · exact (w.dn e).1 i k
    · have : i = x := by omega
      subst this
      intro r er p hp ht
      rw [(w.dn e).2.1] at er
      cases er
      exact (w.dn e).2.2 p hp ht⟩
theorem RInv.start (g : Grow U m n F b T) : RInv U m n F b (pot U m T) T false 0 := ⟨g, Nat.le_refl _, (fun e => nomatch e), fun _ i hi => absurd hi (Nat.not_lt_zero _)⟩
theorem RInv.least {P0 : Nat} (w : RInv U m n F b P0 T false n) : Least U m n F b T := ⟨⟨w.g.good, w.g.beg, fun i hi => w.dn rfl i hi⟩, w.g.low⟩
end
/-! ### instructions -/
inductive Ins
  | new (r : Nat) (c : Str)
  | array (r : Nat) (c : Str) (k : Int)
  | null (r : Nat)
  | move (r s : Nat)
  | get (r s : Nat) (c f t : Str)
  | put (r s : Nat) (c f t : Str)
  | call (r s : Nat) (c f : Str) (ks : List PyData) (t : Str) (as : List PyData)
  | ask (r s : Nat) (c f : Str) (ks : List PyData) (t : Str) (as : List PyData)
  | cast (r s : Nat) (c : Str)
  | load (r s : Nat) (k : Int)
  | store (r s : Nat) (k : Int)
  | jump (t : Nat)
  | ifnull (r t : Nat)
  | ifis (r : Nat) (c : Str) (t : Nat)
  | choose (t : Nat)
  | tell (r : Nat)
  | ret (r : Nat)
def dN (i : Nat) : PyData := .int i
def Ins.word : Ins → Str
  | .new .. => "new" | .array .. => "array" | .null .. => "null" | .move .. => "move" | .get .. => "get" | .put .. => "put" | .call .. => "call" | .ask .. => "ask" | .cast .. => "cast" | .load .. => "load"
  | .store .. => "store" | .jump .. => "jump" | .ifnull .. => "ifnull" | .ifis .. => "ifis" | .choose .. => "choose" | .tell .. => "tell" | .ret .. => "return"
def Ins.rest : Ins → List PyData
  | .new r c => [dN r, .str c]
  | .array r c k => [dN r, .str c, .int k]
  | .null r => [dN r]
  | .move r s => [dN r, dN s]
  | .get r s c f t => [dN r, dN s, .str c, .str f, .str t]
  | .put r s c f t => [dN r, .str c, .str f, .str t, dN s]
  | .call r s c f ks t as => [dN r, dN s, .str c, .str f, .tuple ks, .str t, .tuple as]
  | .ask r s c f ks t as => [dN r, dN s, .str c, .str f, .tuple ks, .str t, .tuple as]
  | .cast r s c => [dN r, dN s, .str c]
  | .load r s k => [dN r, dN s, .int k]
  | .store r s k => [dN r, .int k, dN s]
  | .jump t => [dN t]
  | .ifnull r t => [dN r, dN t]
  | .ifis r c t => [dN r, .str c, dN t]
  | .choose t => [dN t]
  | .tell r => [dN r]
  | .ret r => [dN r]
def Ins.data (i : Ins) : PyData := .tuple (.str i.word :: i.rest)
def brk : Str := "[]"
def eb (z : Str) : Bool := Txt.endswith z brk
def c2 (z : Str) : Str := L2.cutS z none (some (-2))
def elem (z : Str) : Option Str := if eb z = true then some (c2 z) else none
def elems : Option (List Str) → Option (List Str)
  | none => none
  | some l => some (canon (l.filterMap elem))
def made (row : Row) : Ins → Option (List Str)
  | .new _ c => some [c]
  | .array _ c _ => some [c ++ brk]
  | .null _ => some []
  | .move _ s => row.getD s none
  | .get _ _ _ _ t => some [t]
  | .call _ _ _ _ _ t _ => some [t]
  | .ask _ _ _ _ _ t _ => some [t]
  | .cast _ _ c => some [c]
  | .load _ s _ => elems (row.getD s none)
  | _ => none
def lead (x : Nat) (row : Row) : Ins → List (Nat × Row)
  | .ret _ => []
  | .jump t => [(t, row)]
  | .choose t => [(x + 1, row), (t, row)]
  | .ifnull r t => [(x + 1, row), (t, row.set r (some []))]
  | .ifis r c t => [(x + 1, row), (t, row.set r (some [c]))]
  | .put .. => [(x + 1, row)]
  | .store .. => [(x + 1, row)]
  | .tell _ => [(x + 1, row)]
  | .new r c => [(x + 1, row.set r (made row (.new r c)))]
  | .array r c k => [(x + 1, row.set r (made row (.array r c k)))]
  | .null r => [(x + 1, row.set r (made row (.null r)))]
  | .move r s => [(x + 1, row.set r (made row (.move r s)))]
  | .get r s c f t => [(x + 1, row.set r (made row (.get r s c f t)))]
  | .call r s c f ks t as => [(x + 1, row.set r (made row (.call r s c f ks t as)))]
  | .ask r s c f ks t as => [(x + 1, row.set r (made row (.ask r s c f ks t as)))]
  | .cast r s c => [(x + 1, row.set r (made row (.cast r s c)))]
  | .load r s k => [(x + 1, row.set r (made row (.load r s k)))]
def leads (is : List Ins) (x : Nat) (row : Row) : List (Nat × Row) := match is[x]? with
  | some i => lead x row i
  | none => []
/-- an instruction's names are of U, its drawers below m -/
def Wf (U : List Str) (m : Nat) : Ins → Prop
  | .new r c => r < m ∧ c ∈ U
  | .array r c _ => r < m ∧ (c ++ brk) ∈ U
  | .null r => r < m
  | .move r s => r < m ∧ s < m
  | .get r s _ _ t => r < m ∧ s < m ∧ t ∈ U
  | .put r s _ _ _ => r < m ∧ s < m
  | .call r s _ _ _ t _ => r < m ∧ s < m ∧ t ∈ U
  | .ask r s _ _ _ t _ => r < m ∧ s < m ∧ t ∈ U
  | .cast r s c => r < m ∧ s < m ∧ c ∈ U
  | .load r s _ => r < m ∧ s < m
  | .store r s _ => r < m ∧ s < m
  | .jump _ => True
  | .ifnull r _ => r < m
  | .ifis r c _ => r < m ∧ c ∈ U
  | .choose _ => True
  | .tell r => r < m
  | .ret r => r < m
section
variable {U : List Str} {m : Nat}
theorem can1 {c : Str} (h : c ∈ U) : CanS U (some [c]) := fun l e => by cases e; exact ⟨List.pairwise_singleton _ _, fun k hk => by rw [List.mem_singleton.mp hk]; exact h⟩
theorem can0 : CanS U (some []) := fun l e => by cases e; exact ⟨List.Pairwise.nil, fun k hk => nomatch hk⟩
theorem canG {row : Row} (h : CanR U m row) (s : Nat) : CanS U (row.getD s none) := by
  rw [List.getD_eq_getElem?_getD]
  cases e : row[s]? with
  | none => exact fun l q => nomatch q
  | some x => exact h.2 x (List.mem_of_getElem? e)
theorem canE (hU : ∀ z ∈ U, ∀ y, elem z = some y → y ∈ U) {s : Option (List Str)} (h : CanS U s) : CanS U (elems s) := by
  cases s with
  | none => exact fun l q => nomatch q
  | some l =>
    intro l' e
    cases e
    refine ⟨srt_canon _, fun k hk => ?_⟩
    obtain ⟨z, hz, e⟩ := List.mem_filterMap.mp (mem_canon.mp hk)
    exact hU z ((h l rfl).2 z hz) k e
theorem leE {s t : Option (List Str)} (h : leS s t) : leS (elems s) (elems t) := by
  cases t with
  | none => cases s <;> trivial
  | some y =>
    cases s with
    | none => exact h.elim
    | some x =>
      intro k hk
      obtain ⟨z, hz, e⟩ := List.mem_filterMap.mp (mem_canon.mp hk)
      exact mem_canon.mpr (List.mem_filterMap.mpr ⟨z, h z hz, e⟩)
theorem leG {a b : Row} (h : leR a b) (s : Nat) : leS (a.getD s none) (b.getD s none) := by
  rw [List.getD_eq_getElem?_getD, List.getD_eq_getElem?_getD]
  cases e : a[s]? with
  | none =>
    have : b[s]? = none := by
      rw [List.getElem?_eq_none_iff] at e ⊢
      rw [← leR_len h]
      exact e
    rw [this]
    trivial
  | some x =>
    obtain ⟨t, e2, le⟩ := leR_get h e
    rw [e2]
    exact le
theorem made_can (hU : ∀ z ∈ U, ∀ y, elem z = some y → y ∈ U) {row : Row} (h : CanR U m row) : ∀ i, Wf U m i → CanS U (made row i)
  | .new _ _, w => can1 w.2
  | .array _ _ _, w => can1 w.2
  | .null _, _ => can0
  | .move _ s, _ => canG h s
  | .get .., w => can1 w.2.2
  | .call .., w => can1 w.2.2
  | .ask .., w => can1 w.2.2
  | .cast .., w => can1 w.2.2
  | .load _ s _, _ => canE hU (canG h s)
  | .put .., _ => fun l q => nomatch q
  | .store .., _ => fun l q => nomatch q
  | .jump _, _ => fun l q => nomatch q
  | .ifnull .., _ => fun l q => nomatch q
  | .ifis .., _ => fun l q => nomatch q
  | .choose _, _ => fun l q => nomatch q
  | .tell _, _ => fun l q => nomatch q
  | .ret _, _ => fun l q => nomatch q
theorem made_le {a b : Row} (h : leR a b) : ∀ i, leS (made a i) (made b i)
  | .move _ s => leG h s
  | .load _ s _ => leE (leG h s)
  | .new _ _ => leS_refl _
  | .array _ _ _ => leS_refl _
  | .null _ => leS_refl _
  | .get .. => leS_refl _
  | .call .. => leS_refl _
  | .ask .. => leS_refl _
  | .cast .. => leS_refl _
  | .put .. => leS_refl _
  | .store .. => leS_refl _
  | .jump _ => leS_refl _
  | .ifnull .. => leS_refl _
  | .ifis .. => leS_refl _
  | .choose _ => leS_refl _
  | .tell _ => leS_refl _
  | .ret _ => leS_refl _
theorem lead_can (hU : ∀ z ∈ U, ∀ y, elem z = some y → y ∈ U) {row : Row} (h : CanR U m row) (x : Nat) (i : Ins) (w : Wf U m i) : ∀ p ∈ lead x row i, CanR U m p.2 := by
  have hm := made_can hU h i w
  have one : ∀ {a : Nat} {r : Row}, CanR U m r → ∀ p ∈ [(a, r)], CanR U m p.2 := fun hr p hp => by rw [List.mem_singleton.mp hp]; exact hr
  have two : ∀ {a c : Nat} {r s : Row}, CanR U m r → CanR U m s → ∀ p ∈ [(a, r), (c, s)], CanR U m p.2 := fun hr hs p hp => by
    simp only [List.mem_cons, List.not_mem_nil, or_false] at hp
    rcases hp with rfl | rfl
    · exact hr
    · exact hs
  cases i with
  | ret r => exact fun p hp => nomatch hp
  | jump t => exact one h
  | choose t => exact two h h
  | ifnull r t => exact two h (h.set can0 r)
  | ifis r c t => exact two h (h.set (can1 w.2) r)
  | put r s c f t => exact one h
  | store r s k => exact one h
  | tell r => exact one h
  | new r c => exact one (h.set hm r)
  | array r c k => exact one (h.set hm r)
  | null r => exact one (h.set hm r)
  | move r s => exact one (h.set hm r)
  | get r s c f t => exact one (h.set hm r)
  | call r s c f ks t as => exact one (h.set hm r)
  | ask r s c f ks t as => exact one (h.set hm r)
  | cast r s c => exact one (h.set hm r)
  | load r s k => exact one (h.set hm r)
theorem lead_le {a b : Row} (h : leR a b) (x : Nat) (i : Ins) : ∀ p ∈ lead x a i, ∃ p' ∈ lead x b i, p'.1 = p.1 ∧ leR p.2 p'.2 := by
  have hm := made_le h i
  have one : ∀ {y : Nat} {r s : Row}, leR r s → ∀ p ∈ [(y, r)], ∃ p' ∈ [(y, s)], p'.1 = p.1 ∧ leR p.2 p'.2 := fun {y r s} hr p hp => by
    rw [List.mem_singleton.mp hp]
    exact ⟨(y, s), List.mem_singleton.mpr rfl, rfl, hr⟩
  have two : ∀ {y z : Nat} {r s r' s' : Row}, leR r r' → leR s s' → ∀ p ∈ [(y, r), (z, s)], ∃ p' ∈ [(y, r'), (z, s')], p'.1 = p.1 ∧ leR p.2 p'.2 := fun {y z r s r' s'} hr hs p hp => by
    simp only [List.mem_cons, List.not_mem_nil, or_false] at hp
    rcases hp with rfl | rfl
    · exact ⟨(y, r'), List.mem_cons_self, rfl, hr⟩
    · exact ⟨(z, s'), List.mem_cons_of_mem _ (List.mem_singleton.mpr rfl), rfl, hs⟩
  cases i with
  | ret r => exact fun p hp => nomatch hp
  | jump t => exact one h
  | choose t => exact two h h
  | ifnull r t => exact two h (leR_set h (leS_refl _) r)
  | ifis r c t => exact two h (leR_set h (leS_refl _) r)
  | put r s c f t => exact one h
  | store r s k => exact one h
  | tell r => exact one h
  | new r c => exact one (leR_set h hm r)
  | array r c k => exact one (leR_set h hm r)
  | null r => exact one (leR_set h hm r)
  | move r s => exact one (leR_set h hm r)
  | get r s c f t => exact one (leR_set h hm r)
  | call r s c f ks t as => exact one (leR_set h hm r)
  | ask r s c f ks t as => exact one (leR_set h hm r)
  | cast r s c => exact one (leR_set h hm r)
  | load r s k => exact one (leR_set h hm r)
theorem leads_mono (hU : ∀ z ∈ U, ∀ y, elem z = some y → y ∈ U) {is : List Ins} (hw : ∀ i ∈ is, Wf U m i) : Mono U m is.length (leads is) where
  can := fun {x r} hx hr p hp => by
    unfold leads at hp
    rw [List.getElem?_eq_getElem hx] at hp
    exact lead_can hU hr x _ (hw _ (List.getElem_mem hx)) p hp
  mono := fun {x r r'} hx hr hr' h p hp => by
    unfold leads at hp ⊢
    rw [List.getElem?_eq_getElem hx] at hp ⊢
    exact lead_le h x _ p hp
end
end SL
set_option Elab.async false
set_option linter.all false
set_option maxRecDepth 10000
set_option maxHeartbeats 1000000
/-! rows and tables as data: tuples (the package's), lists (the law's) -/
namespace SL
open PySem PySem.Spec TX EX2
def setT : Option (List Str) → PyData
  | none => .none
  | some l => .tuple (l.map .str)
def rowT (r : Row) : PyData := .tuple (r.map setT)
def orT : Option Row → PyData
  | none => .none
  | some r => rowT r
def setL : Option (List Str) → PyData
  | none => .none
  | some l => .list (l.map .str)
def rowL (r : Row) : PyData := .list (r.map setL)
def orL : Option Row → PyData
  | none => .none
  | some r => rowL r
theorem eqv_map {α : Type} [DecidableEq α] (f : α → PyData) (h : ∀ x y, PyData.eqv (f x) (f y) = decide (x = y)) : ∀ l m : List α, PyData.eqvAll (l.map f) (m.map f) = decide (l = m)
  | [], [] => by simp [PyData.eqvAll]
  | [], _ :: _ => by simp [PyData.eqvAll]
  | _ :: _, [] => by simp [PyData.eqvAll]
  | x :: l, y :: m => by
    simp only [List.map_cons, PyData.eqvAll, h x y, eqv_map f h l m]
    by_cases e : x = y <;> by_cases e2 : l = m <;> simp [e, e2]
theorem eqv_str (x y : Str) : PyData.eqv (.str x) (.str y) = decide (x = y) := by
  simp only [PyData.eqv]
  by_cases e : x = y
  · subst e; simp
  · first
      | simp [e]
      | (rw [decide_eq_false e]; exact beq_eq_false_iff_ne.mpr fun h => e (TX.str_ext h))
theorem eqv_setT : ∀ a b, PyData.eqv (setT a) (setT b) = decide (a = b)
  | none, none => by simp [setT, PyData.eqv]
  | none, some _ => by simp [setT, PyData.eqv]
  | some _, none => by simp [setT, PyData.eqv]
  | some l, some m => by
    simp only [setT, PyData.eqv, eqv_map _ eqv_str l m]
    simp
theorem eqv_setL : ∀ a b, PyData.eqv (setL a) (setL b) = decide (a = b)
  | none, none => by simp [setL, PyData.eqv]
  | none, some _ => by simp [setL, PyData.eqv]
  | some _, none => by simp [setL, PyData.eqv]
  | some l, some m => by
    simp only [setL, PyData.eqv, eqv_map _ eqv_str l m]
    simp
theorem eqv_orT : ∀ a b, PyData.eqv (orT a) (orT b) = decide (a = b)
  | none, none => by simp [orT, PyData.eqv]
  | none, some _ => by simp [orT, rowT, PyData.eqv]
  | some _, none => by simp [orT, rowT, PyData.eqv]
  | some l, some m => by
    simp only [orT, rowT, PyData.eqv, eqv_map _ eqv_setT l m]
    simp
theorem eqv_orL : ∀ a b, PyData.eqv (orL a) (orL b) = decide (a = b)
  | none, none => by simp [orL, PyData.eqv]
  | none, some _ => by simp [orL, rowL, PyData.eqv]
  | some _, none => by simp [orL, rowL, PyData.eqv]
  | some l, some m => by
    simp only [orL, rowL, PyData.eqv, eqv_map _ eqv_setL l m]
    simp
theorem eqv_tabT (a b : Tab) : PyData.eqv (.tuple (a.map orT)) (.tuple (b.map orT)) = decide (a = b) := by
  simp only [PyData.eqv, eqv_map _ eqv_orT a b]
theorem canLay_map {α : Type} (f : α → PyData) : ∀ l : List α, (∀ x ∈ l, (f x).canLay0 = true) → PyData.canLayAll0 (l.map f) = true
  | [], _ => rfl
  | x :: l, h => by
    show ((f x).canLay0 && PyData.canLayAll0 (l.map f)) = true
    rw [h x List.mem_cons_self, canLay_map f l fun y hy => h y (List.mem_cons_of_mem _ hy)]
    rfl
theorem depth_map {α : Type} (f : α → PyData) (n : Nat) : ∀ l : List α, (∀ x ∈ l, (f x).depth ≤ n) → PyData.depthAll (l.map f) ≤ n
  | [], _ => Nat.zero_le _
  | x :: l, h => by
    have h1 := h x List.mem_cons_self
    have h2 := depth_map f n l fun y hy => h y (List.mem_cons_of_mem _ hy)
    simp only [List.map_cons, PyData.depthAll]
    omega
/-- texts that can be laid -/
def OkU (U : List Str) : Prop := ∀ z ∈ U, PyData.strOk z = true ∧ z.length ≤ 1000
section
variable {U : List Str} (hU : OkU U)
include hU
theorem lay_set (f : List PyData → PyData) (hf : ∀ l, (f l).canLay0 = PyData.canLayAll0 l) {l : List Str} (h : ∀ k ∈ l, k ∈ U) : (f (l.map .str)).canLay0 = true := by
  rw [hf]
  exact canLay_map _ l fun x hx => (hU x (h x hx)).1
end
theorem dep_str (l : List Str) : PyData.depthAll (l.map .str) ≤ 0 := depth_map _ 0 l fun x _ => by simp [PyData.depth]
theorem dep_setT (s : Option (List Str)) : (setT s).depth ≤ 1 := by
  cases s with
  | none => simp [setT, PyData.depth]
  | some l => have := dep_str l; simp only [setT, PyData.depth]; omega
theorem dep_setL (s : Option (List Str)) : (setL s).depth ≤ 1 := by
  cases s with
  | none => simp [setL, PyData.depth]
  | some l => have := dep_str l; simp only [setL, PyData.depth]; omega
theorem dep_orT (o : Option Row) : (orT o).depth ≤ 2 := by
  cases o with
  | none => simp [orT, PyData.depth]
  | some r => have := depth_map setT 1 r fun x _ => dep_setT x; simp only [orT, rowT, PyData.depth]; omega
theorem dep_orL (o : Option Row) : (orL o).depth ≤ 2 := by
  cases o with
  | none => simp [orL, PyData.depth]
  | some r => have := depth_map setL 1 r fun x _ => dep_setL x; simp only [orL, rowL, PyData.depth]; omega
/-- sets of texts of U, sorted or not -/
def Over (U : List Str) (s : Option (List Str)) : Prop := ∀ l, s = some l → ∀ k ∈ l, k ∈ U
theorem CanS.over {U s} (h : CanS U s) : Over U s := fun l e => (h l e).2
section
variable {U : List Str} (hU : OkU U)
include hU
theorem lay_setT {s : Option (List Str)} (h : Over U s) : (setT s).canLay0 = true := by
  cases s with
  | none => rfl
  | some l => exact lay_set hU .tuple (fun _ => rfl) (h l rfl)
theorem lay_setL {s : Option (List Str)} (h : Over U s) : (setL s).canLay0 = true := by
  cases s with
  | none => rfl
  | some l => exact lay_set hU .list (fun _ => rfl) (h l rfl)
theorem lay_orT {o : Option Row} (h : ∀ r, o = some r → ∀ s ∈ r, Over U s) : (orT o).canLay0 = true := by
  cases o with
  | none => rfl
  | some r => exact canLay_map setT r fun s hs => lay_setT hU (h r rfl s hs)
theorem lay_orL {o : Option Row} (h : ∀ r, o = some r → ∀ s ∈ r, Over U s) : (orL o).canLay0 = true := by
  cases o with
  | none => rfl
  | some r => exact canLay_map setL r fun s hs => lay_setL hU (h r rfl s hs)
theorem shaped_orT {o : Option Row} (h : ∀ r, o = some r → ∀ s ∈ r, Over U s) : SeqAt.shaped (orT o) = true := by
  unfold SeqAt.shaped
  have := dep_orT o
  rw [lay_orT hU h, decide_eq_true (by omega)]
  rfl
theorem shaped_orL {o : Option Row} (h : ∀ r, o = some r → ∀ s ∈ r, Over U s) : SeqAt.shaped (orL o) = true := by
  unfold SeqAt.shaped
  have := dep_orL o
  rw [lay_orL hU h, decide_eq_true (by omega)]
  rfl
theorem shaped_tabT {T : Tab} (h : ∀ r, some r ∈ T → ∀ s ∈ r, Over U s) : SeqAt.shaped (.tuple (T.map orT)) = true := by
  unfold SeqAt.shaped
  have h1 : (PyData.tuple (T.map orT)).canLay0 = true := canLay_map orT T fun o ho => lay_orT hU fun r e => h r (e ▸ ho)
  have h2 := depth_map orT 2 T fun o _ => dep_orT o
  have h3 : (PyData.tuple (T.map orT)).depth ≤ 3 := by simp only [PyData.depth]; omega
  rw [h1, decide_eq_true (by omega)]
  rfl
end
/-! ### tuples hold no lists -/
theorem noL_map {α : Type} (f : α → PyData) (h : ∀ x, noL (f x) = true) (l : List α) : noLs (l.map f) = true := noLs_of fun d hd => by
  obtain ⟨x, _, rfl⟩ := List.mem_map.mp hd
  exact h x
theorem noL_setT (s : Option (List Str)) : noL (setT s) = true := by
  cases s with
  | none => rfl
  | some l => exact noL_map _ (fun _ => rfl) l
theorem noL_rowT (r : Row) : noL (rowT r) = true := noL_map setT noL_setT r
theorem noL_orT (o : Option Row) : noL (orT o) = true := by
  cases o with
  | none => rfl
  | some r => exact noL_rowT r
def leadT (p : Nat × Row) : PyData := .tuple [dN p.1, rowT p.2]
theorem noL_leadT (p : Nat × Row) : noL (leadT p) = true := by
  simp [leadT, noL, noLs, dN, noL_rowT]
end SL
set_option Elab.async false
set_option linter.all false
set_option maxRecDepth 10000
set_option maxHeartbeats 1000000
namespace SL
open PySem PySem.Spec TX EX2 L2
theorem iv_new {H : Hp} {x : V} {c : Str} {r : Nat} (h : Dq H x (Ins.new r c).data) : ∃ (a : Addr), x = .ref a ∧ H a = some (.tup [.str "new", .int (r : Nat), .str c]) := by
  obtain ⟨a, ys, rfl, ha, hall⟩ := Dq.tupI (show Dq H x (.tuple [.str "new", dN r, .str c]) from h)
  cases hall with
  | cons h0 t0 =>
    cases t0 with
    | cons h1 t1 =>
      cases t1 with
      | cons h2 t2 =>
        cases t2
        rw [h0.strI, h1.intI, h2.strI] at ha
        exact ⟨a, rfl, ha⟩
theorem iv_array {H : Hp} {x : V} {c : Str} {k : Int} {r : Nat} (h : Dq H x (Ins.array r c k).data) : ∃ (a : Addr), x = .ref a ∧ H a = some (.tup [.str "array", .int (r : Nat), .str c, .int k]) := by
  obtain ⟨a, ys, rfl, ha, hall⟩ := Dq.tupI (show Dq H x (.tuple [.str "array", dN r, .str c, .int k]) from h)
  cases hall with
  | cons h0 t0 =>
    cases t0 with
    | cons h1 t1 =>
      cases t1 with
      | cons h2 t2 =>
        cases t2 with
        | cons h3 t3 =>
          cases t3
          rw [h0.strI, h1.intI, h2.strI, h3.intI] at ha
          exact ⟨a, rfl, ha⟩
theorem iv_null {H : Hp} {x : V} {r : Nat} (h : Dq H x (Ins.null r).data) : ∃ (a : Addr), x = .ref a ∧ H a = some (.tup [.str "null", .int (r : Nat)]) := by
  obtain ⟨a, ys, rfl, ha, hall⟩ := Dq.tupI (show Dq H x (.tuple [.str "null", dN r]) from h)
  cases hall with
  | cons h0 t0 =>
    cases t0 with
    | cons h1 t1 =>
      cases t1
      rw [h0.strI, h1.intI] at ha
      exact ⟨a, rfl, ha⟩
theorem iv_move {H : Hp} {x : V} {r : Nat} {s : Nat} (h : Dq H x (Ins.move r s).data) : ∃ (a : Addr), x = .ref a ∧ H a = some (.tup [.str "move", .int (r : Nat), .int (s : Nat)]) := by
  obtain ⟨a, ys, rfl, ha, hall⟩ := Dq.tupI (show Dq H x (.tuple [.str "move", dN r, dN s]) from h)
  cases hall with
  | cons h0 t0 =>
    cases t0 with
    | cons h1 t1 =>
      cases t1 with
      | cons h2 t2 =>
        cases t2
        rw [h0.strI, h1.intI, h2.intI] at ha
        exact ⟨a, rfl, ha⟩
theorem iv_get {H : Hp} {x : V} {c : Str} {f : Str} {r : Nat} {s : Nat} {t : Str} (h : Dq H x (Ins.get r s c f t).data) : ∃ (a : Addr), x = .ref a ∧ H a = some (.tup [.str "get", .int (r : Nat), .int (s : Nat), .str c, .str f, .str t]) := by
  obtain ⟨a, ys, rfl, ha, hall⟩ := Dq.tupI (show Dq H x (.tuple [.str "get", dN r, dN s, .str c, .str f, .str t]) from h)
  cases hall with
  | cons h0 t0 =>
    cases t0 with
    | cons h1 t1 =>
      cases t1 with
      | cons h2 t2 =>
        cases t2 with
        | cons h3 t3 =>
          cases t3 with
          | cons h4 t4 =>
            cases t4 with
            | cons h5 t5 =>
              cases t5
              rw [h0.strI, h1.intI, h2.intI, h3.strI, h4.strI, h5.strI] at ha
              exact ⟨a, rfl, ha⟩
theorem iv_put {H : Hp} {x : V} {c : Str} {f : Str} {r : Nat} {s : Nat} {t : Str} (h : Dq H x (Ins.put r s c f t).data) : ∃ (a : Addr), x = .ref a ∧ H a = some (.tup [.str "put", .int (r : Nat), .str c, .str f, .str t, .int (s : Nat)]) := by
  obtain ⟨a, ys, rfl, ha, hall⟩ := Dq.tupI (show Dq H x (.tuple [.str "put", dN r, .str c, .str f, .str t, dN s]) from h)
  cases hall with
  | cons h0 t0 =>
    cases t0 with
    | cons h1 t1 =>
      cases t1 with
      | cons h2 t2 =>
        cases t2 with
        | cons h3 t3 =>
          cases t3 with
          | cons h4 t4 =>
            cases t4 with
            | cons h5 t5 =>
              cases t5
              rw [h0.strI, h1.intI, h2.strI, h3.strI, h4.strI, h5.intI] at ha
              exact ⟨a, rfl, ha⟩
theorem iv_call {H : Hp} {x : V} {as : List PyData} {c : Str} {f : Str} {ks : List PyData} {r : Nat} {s : Nat} {t : Str} (h : Dq H x (Ins.call r s c f ks t as).data) : ∃ (a : Addr) (v_ks : V) (v_as : V), x = .ref a ∧ H a = some (.tup [.str "call", .int (r : Nat), .int (s : Nat), .str c, .str f, v_ks, .str t, v_as]) ∧ Dq H v_ks (.tuple ks) ∧ Dq H v_as (.tuple as) := by
  obtain ⟨a, ys, rfl, ha, hall⟩ := Dq.tupI (show Dq H x (.tuple [.str "call", dN r, dN s, .str c, .str f, .tuple ks, .str t, .tuple as]) from h)
  cases hall with
  | cons h0 t0 =>
    cases t0 with
    | cons h1 t1 =>
      cases t1 with
      | cons h2 t2 =>
        cases t2 with
        | cons h3 t3 =>
          cases t3 with
          | cons h4 t4 =>
            cases t4 with
            | cons h5 t5 =>
              cases t5 with
              | cons h6 t6 =>
                cases t6 with
                | cons h7 t7 =>
                  cases t7
                  rw [h0.strI, h1.intI, h2.intI, h3.strI, h4.strI, h6.strI] at ha
                  exact ⟨a, _, _, rfl, ha, h5, h7⟩
theorem iv_ask {H : Hp} {x : V} {as : List PyData} {c : Str} {f : Str} {ks : List PyData} {r : Nat} {s : Nat} {t : Str} (h : Dq H x (Ins.ask r s c f ks t as).data) : ∃ (a : Addr) (v_ks : V) (v_as : V), x = .ref a ∧ H a = some (.tup [.str "ask", .int (r : Nat), .int (s : Nat), .str c, .str f, v_ks, .str t, v_as]) ∧ Dq H v_ks (.tuple ks) ∧ Dq H v_as (.tuple as) := by
  obtain ⟨a, ys, rfl, ha, hall⟩ := Dq.tupI (show Dq H x (.tuple [.str "ask", dN r, dN s, .str c, .str f, .tuple ks, .str t, .tuple as]) from h)
  cases hall with
  | cons h0 t0 =>
    cases t0 with
    | cons h1 t1 =>
      cases t1 with
      | cons h2 t2 =>
        cases t2 with
        | cons h3 t3 =>
          cases t3 with
          | cons h4 t4 =>
            cases t4 with
            | cons h5 t5 =>
              cases t5 with
              | cons h6 t6 =>
                cases t6 with
                | cons h7 t7 =>
                  cases t7
                  rw [h0.strI, h1.intI, h2.intI, h3.strI, h4.strI, h6.strI] at ha
                  exact ⟨a, _, _, rfl, ha, h5, h7⟩
theorem iv_cast {H : Hp} {x : V} {c : Str} {r : Nat} {s : Nat} (h : Dq H x (Ins.cast r s c).data) : ∃ (a : Addr), x = .ref a ∧ H a = some (.tup [.str "cast", .int (r : Nat), .int (s : Nat), .str c]) := by
  obtain ⟨a, ys, rfl, ha, hall⟩ := Dq.tupI (show Dq H x (.tuple [.str "cast", dN r, dN s, .str c]) from h)
  cases hall with
  | cons h0 t0 =>
    cases t0 with
    | cons h1 t1 =>
      cases t1 with
      | cons h2 t2 =>
        cases t2 with
        | cons h3 t3 =>
          cases t3
          rw [h0.strI, h1.intI, h2.intI, h3.strI] at ha
          exact ⟨a, rfl, ha⟩
theorem iv_load {H : Hp} {x : V} {k : Int} {r : Nat} {s : Nat} (h : Dq H x (Ins.load r s k).data) : ∃ (a : Addr), x = .ref a ∧ H a = some (.tup [.str "load", .int (r : Nat), .int (s : Nat), .int k]) := by
  obtain ⟨a, ys, rfl, ha, hall⟩ := Dq.tupI (show Dq H x (.tuple [.str "load", dN r, dN s, .int k]) from h)
  cases hall with
  | cons h0 t0 =>
    cases t0 with
    | cons h1 t1 =>
      cases t1 with
      | cons h2 t2 =>
        cases t2 with
        | cons h3 t3 =>
          cases t3
          rw [h0.strI, h1.intI, h2.intI, h3.intI] at ha
          exact ⟨a, rfl, ha⟩
theorem iv_store {H : Hp} {x : V} {k : Int} {r : Nat} {s : Nat} (h : Dq H x (Ins.store r s k).data) : ∃ (a : Addr), x = .ref a ∧ H a = some (.tup [.str "store", .int (r : Nat), .int k, .int (s : Nat)]) := by
  obtain ⟨a, ys, rfl, ha, hall⟩ := Dq.tupI (show Dq H x (.tuple [.str "store", dN r, .int k, dN s]) from h)
  cases hall with
  | cons h0 t0 =>
    cases t0 with
    | cons h1 t1 =>
      cases t1 with
      | cons h2 t2 =>
        cases t2 with
        | cons h3 t3 =>
          cases t3
          rw [h0.strI, h1.intI, h2.intI, h3.intI] at ha
          exact ⟨a, rfl, ha⟩
theorem iv_jump {H : Hp} {x : V} {t : Nat} (h : Dq H x (Ins.jump t).data) : ∃ (a : Addr), x = .ref a ∧ H a = some (.tup [.str "jump", .int (t : Nat)]) := by
  obtain ⟨a, ys, rfl, ha, hall⟩ := Dq.tupI (show Dq H x (.tuple [.str "jump", dN t]) from h)
  cases hall with
  | cons h0 t0 =>
    cases t0 with
    | cons h1 t1 =>
      cases t1
      rw [h0.strI, h1.intI] at ha
      exact ⟨a, rfl, ha⟩
theorem iv_ifnull {H : Hp} {x : V} {r : Nat} {t : Nat} (h : Dq H x (Ins.ifnull r t).data) : ∃ (a : Addr), x = .ref a ∧ H a = some (.tup [.str "ifnull", .int (r : Nat), .int (t : Nat)]) := by
  obtain ⟨a, ys, rfl, ha, hall⟩ := Dq.tupI (show Dq H x (.tuple [.str "ifnull", dN r, dN t]) from h)
  cases hall with
  | cons h0 t0 =>
    cases t0 with
    | cons h1 t1 =>
      cases t1 with
      | cons h2 t2 =>
        cases t2
        rw [h0.strI, h1.intI, h2.intI] at ha
        exact ⟨a, rfl, ha⟩
theorem iv_ifis {H : Hp} {x : V} {c : Str} {r : Nat} {t : Nat} (h : Dq H x (Ins.ifis r c t).data) : ∃ (a : Addr), x = .ref a ∧ H a = some (.tup [.str "ifis", .int (r : Nat), .str c, .int (t : Nat)]) := by
  obtain ⟨a, ys, rfl, ha, hall⟩ := Dq.tupI (show Dq H x (.tuple [.str "ifis", dN r, .str c, dN t]) from h)
  cases hall with
  | cons h0 t0 =>
    cases t0 with
    | cons h1 t1 =>
      cases t1 with
      | cons h2 t2 =>
        cases t2 with
        | cons h3 t3 =>
          cases t3
          rw [h0.strI, h1.intI, h2.strI, h3.intI] at ha
          exact ⟨a, rfl, ha⟩
theorem iv_choose {H : Hp} {x : V} {t : Nat} (h : Dq H x (Ins.choose t).data) : ∃ (a : Addr), x = .ref a ∧ H a = some (.tup [.str "choose", .int (t : Nat)]) := by
  obtain ⟨a, ys, rfl, ha, hall⟩ := Dq.tupI (show Dq H x (.tuple [.str "choose", dN t]) from h)
  cases hall with
  | cons h0 t0 =>
    cases t0 with
    | cons h1 t1 =>
      cases t1
      rw [h0.strI, h1.intI] at ha
      exact ⟨a, rfl, ha⟩
theorem iv_tell {H : Hp} {x : V} {r : Nat} (h : Dq H x (Ins.tell r).data) : ∃ (a : Addr), x = .ref a ∧ H a = some (.tup [.str "tell", .int (r : Nat)]) := by
  obtain ⟨a, ys, rfl, ha, hall⟩ := Dq.tupI (show Dq H x (.tuple [.str "tell", dN r]) from h)
  cases hall with
  | cons h0 t0 =>
    cases t0 with
    | cons h1 t1 =>
      cases t1
      rw [h0.strI, h1.intI] at ha
      exact ⟨a, rfl, ha⟩
theorem iv_ret {H : Hp} {x : V} {r : Nat} (h : Dq H x (Ins.ret r).data) : ∃ (a : Addr), x = .ref a ∧ H a = some (.tup [.str "return", .int (r : Nat)]) := by
  obtain ⟨a, ys, rfl, ha, hall⟩ := Dq.tupI (show Dq H x (.tuple [.str "return", dN r]) from h)
  cases hall with
  | cons h0 t0 =>
    cases t0 with
    | cons h1 t1 =>
      cases t1
      rw [h0.strI, h1.intI] at ha
      exact ⟨a, rfl, ha⟩
end SL
set_option Elab.async false
set_option linter.all false
set_option maxRecDepth 100000
set_option maxHeartbeats 0
namespace EX2
open PySem PySem.Spec PyProof.Rows L2
section
variable {K : PySem.W.Frag} {H : Hp}
mutual
/-- data without dicts, for == -/
theorem dp_q : ∀ {x : V} {d : PyData}, Dq H x d → d.canLay0 = true → Dp K H x d
  | _, _, .non, _ => .non
  | _, _, .bl b, _ => .bl b
  | _, _, .int i, _ => .int i
  | _, _, .str x, _ => .str x
  | _, _, .lst q h, n => .lst (SqL.of q) (dpAll_q h n)
  | _, _, .tup q h, n => .tup (SqT.of q) (dpAll_q h n)
  | _, _, .dk q h, n => by cases n
theorem dpAll_q : ∀ {xs : List V} {ds : List PyData}, DqAll H xs ds → PyData.canLayAll0 ds = true → DpAll K H xs ds
  | _, _, .nil, _ => .nil
  | _, _, .cons h t, n => by
    simp only [PyData.canLayAll0, Bool.and_eq_true] at n
    exact .cons (dp_q h n.1) (dpAll_q t n.2)
end
end
end EX2
set_option Elab.async false
set_option linter.all false
set_option maxRecDepth 100000
set_option maxHeartbeats 4000000
/-! tuple(d) of a dict -/
namespace EX2
open PySem PySem.Spec PyProof.Rows L2
section
variable {prog : Program} {w : World} {A : Around} {E : Value → Shared → Prop} {s : Shared} {d : Addr} {n : Nat} {P : Nat → Value → Prop} {OK : Heap → Prop} {T : String}
theorem collect_kd {Q : List Value → Shared → Prop} (K : PySem.W.KdlSrc prog w T d d n P OK) (hh : A.handled = none) (hok : OK s.heap) (hn : n ≤ sizeLine)
    (hQ : ∀ (h' : Heap) (tk : Nat) (acc : Array Value), (∀ b o, s.heap.get? b = some o → h'.get? b = some o) → ItemsOf P acc n → Q acc.toList { s with heap := h', toks := tk }) :
    wpAny (model prog w) A (collect (.ref d)) Q E s := by
  unfold collect
  refine wpAny_bind (wpAny_runValue (codeAny_builtin F.entry_proto_collect ?_))
  rw [Around.under_plainId F.plain_proto_collect _]
  show wpAny _ A.in1 (newList [] >>= fun l => again (.builtin "list.__iadd__" ⟨[l, .ref d], []⟩)) _ _ s
  refine wpAny_bind (wpAny_newObj_type ?_)
  refine wpAny_pure ⟨plainId_quiet F.plain_list_iadd _, codeAny_builtin F.entry_list_iadd ?_⟩
  rw [Around.under_plainId F.plain_list_iadd _]
  show wpAny _ A.in1 (Builtin.List.listExtendWith (.ref s.heap.objs.size) (.ref d) (.ref s.heap.objs.size)) _ _ _
  have hS : (s.heap.push { cls := .type "list", data := .seq ([] : List Value).toArray }).get? s.heap.objs.size = some { cls := .type "list", data := .seq #[] 0 } := Heap.get?_push_size _ rfl
  have hlt := K.there _ hok
  refine wpAny_mono (PySem.W.kdl_extend (A := A) (R := fun rr s' => rr = .ok (.ret (.ref s.heap.objs.size)) ∧ ∃ (h' : Heap) (tk : Nat) (acc : Array Value) (c' : Nat), s' = { s with heap := h', toks := tk } ∧
      (∀ b o, s.heap.get? b = some o → h'.get? b = some o) ∧ h'.get? s.heap.objs.size = some { cls := .type "list", dict := none, data := .seq acc c', slots := #[] } ∧ ItemsOf P acc n)
    (s := { s with heap := s.heap.push { cls := .type "list", data := .seq ([] : List Value).toArray } }) K hh (K.keep _ _ hok fun b _ o e => Heap.get?_push_of_some _ e) s.heap.objs.size (Nat.ne_of_gt hlt.1) (Nat.ne_of_gt hlt.2) _ 0 hS
    (fun h' tk acc c' hk e hi => ⟨rfl, h', tk, acc, c', rfl, fun b o q => hk b o (Nat.ne_of_lt (Heap.lt_size q)) (Heap.get?_push_of_some _ q), e, hi⟩) hn) (fun fin s' h => ?_) (fun e s' h => ?_)
  · cases fin with
    | done f =>
      obtain ⟨e, h', tk, acc, c', rfl, hk, hS', hi⟩ := h
      cases e
      show wpAny _ A (load s.heap.objs.size >>= _) _ _ _
      exact wpAny_bind (wpAny_load hS' (wpAny_pure (hQ h' tk acc hk hi)))
    | again c' =>
      refine ⟨h.1, codeAny_mono h.2 fun rr s'' hr' => ?_⟩
      obtain ⟨rfl, h', tk, acc, c', rfl, hk, hS', hi⟩ := hr'
      show wpAny _ A (load s.heap.objs.size >>= _) _ _ _
      exact wpAny_bind (wpAny_load hS' (wpAny_pure (hQ h' tk acc hk hi)))
  · exact absurd h.1 (by simp)
theorem code_tuple_kd {Q₁ : Value → Shared → Prop} (K : PySem.W.KdlSrc prog w "dict" d d n P OK) (hh : A.handled = none) (hok : OK s.heap) (hn : n ≤ sizeLine)
    (h : ∀ (h' : Heap) (tk : Nat) (acc : Array Value), (∀ b o, s.heap.get? b = some o → h'.get? b = some o) → ItemsOf P acc n →
      Q₁ (.ref h'.objs.size) { s with heap := h'.push { cls := .type "tuple", data := .seq acc }, toks := tk }) :
    codeAny (model prog w) A (.call (.builtin "tuple.__new__") ⟨[.type "tuple", .ref d], []⟩) (wants Q₁ E) s := by
  refine codeAny_of_tree ?_
  show wpAny _ A.in1 (do checkBuiltinCall "tuple.__new__" ⟨[.type "tuple", .ref d], []⟩; again (.builtin "tuple.__new__" ⟨[.type "tuple", .ref d], []⟩)) _ _ s
  refine wpAny_bind (wpAny_of_eq (F.newCall_tuple_1 _) (wpAny_pure ⟨plainId_quiet F.plain_tuple_new _, codeAny_builtin F.entry_tuple_new ?_⟩))
  rw [Around.under_plainId F.plain_tuple_new _]
  have hsub := sub_tuple_self
  have hinit := init_tuple_lookup
  have hmh := madeHere_tuple
  have hTI : s.TypeIs (.ref d) "dict" := K.type _ hok
  have hh1 : A.in1.handled = none := hh
  wp_walk using wpAny_typeOf hTI, collect_kd (A := A.in1) K hh1 hok hn
  intro h' tk acc hk hacc
  show wpAny _ _ (Builtin.Tuple.tupleExact acc.toList.toArray >>= fun v => ret v) _ _ _
  unfold Builtin.Tuple.tupleExact
  refine wpAny_bind (wpAny_newObj_type ?_ (by show acc.toList.toArray.size ≤ sizeLine; simp only [Array.toArray_toList]; rw [hacc.1]; exact hn))
  refine wpAny_pure ?_
  have e : acc.toList.toArray = acc := by simp
  rw [e]
  exact h h' tk acc hk hacc
theorem call_tuple_kd {Q : Value → Shared → Prop} (K : PySem.W.KdlSrc prog w "dict" d d n P OK) (hh : A.handled = none) (hok : OK s.heap) (hn : n ≤ sizeLine)
    (hQ : ∀ (h' : Heap) (tk : Nat) (acc : Array Value), (∀ b o, s.heap.get? b = some o → h'.get? b = some o) → ItemsOf P acc n →
      Q (.ref h'.objs.size) { s with heap := h'.push { cls := .type "tuple", data := .seq acc }, toks := tk }) :
    wpAny (model prog w) A (call (.type "tuple") [.ref d]) Q E s := by
  refine callType_codes (Q₁ := fun obj s₁ => s₁.TypeIs obj "tuple" ∧ Q obj s₁) F.called_tuple (F.typeCall_tuple_1 _) F.entry_object_init
    (code_tuple_kd (A := A.in1) K hh hok hn fun h' tk acc hk hacc => ⟨⟨_, Heap.get?_push_size _ rfl, rfl⟩, hQ h' tk acc hk hacc⟩) fun obj s₁ h₁ => ?_
  exact ⟨h₁.1, F.args_object_init_2 obj _, object_init_meets F.called_tuple.init.lookup F.called_tuple.made (by decide) prog w A.in1 _ s₁ ⟨h₁.1, rfl, h₁.2⟩⟩
end
/-- tuple(d), d empty -/
def rTupD0 : List V → Hp → VK → Prop := fun xs H Q => ∃ p, xs = [.ref p] ∧ H p = some (.dK []) ∧ ∀ q, H q = none → Q (.ref q) (upd H q (.tup []))
theorem call_tuple_dK0 {X : Cx} (hc : X.calm = true) : CallR X (.type "tuple") rTupD0 := by
  intro pins s σ H xs us Q I r h
  obtain ⟨p, e, hk, q⟩ := h
  subst e
  obtain ⟨u, eu, rx⟩ := vals1 r
  subst eu
  obtain rfl : u = Value.ref p := rx
  obtain ⟨z, lo, vs, rk, hd⟩ := (show ObjOk X.prog X.w H s.heap p (.dK []) from I.hok p _ hk)
  obtain ⟨ep, hat⟩ := hd.dictAt
  have hl : ([] : List (Key × V)).length = vs.length := Paired.length rk
  refine call_tuple_kd (PySem.W.kdl_dict (knd := mixKind X.prog X.w) (kvs := vs) (ep := ep) lo) (I.ok.hd hc) hat (by rw [← hl]; exact z) fun h' tk acc hkeep hacc => ?_
  have ha : acc = #[] := by
    have := hacc.1
    rw [← hl] at this
    exact Array.eq_empty_of_size_eq_zero this
  subst ha
  have I1 : Inv X pins σ H { s with heap := h', toks := tk } := I.kept (t' := tk) hkeep
  have I2 : Inv X pins σ (upd H h'.objs.size (.tup [])) { s with heap := h'.push { cls := .type "tuple", data := .seq #[] }, toks := tk } :=
    I1.laid (t' := tk) (fun b o e => Heap.get?_push_of_some _ e) (Nat.le_refl _) (show ObjOk X.prog X.w _ _ _ (.tup []) from ⟨Nat.zero_le _, [], .nil, IsTup.new _ _⟩)
  exact ⟨.ref h'.objs.size, _, I2, rfl, q _ (I1.hok.fresh (Nat.le_refl _))⟩
end EX2
set_option Elab.async false
set_option linter.all false
set_option maxRecDepth 100000
set_option maxHeartbeats 4000000
/-! tuple(d) of a dict's keys; o.m(.., k = v); several except clauses as n, of which the last ones are never asked -/
namespace EX2
open PySem PySem.Spec PyProof.Rows L2
/-- tuple(d): its keys -/
def rTupD : List V → Hp → VK → Prop := fun xs H Q => ∃ p kvs, xs = [.ref p] ∧ H p = some (.dK kvs) ∧ ∀ q, H q = none → Q (.ref q) (upd H q (.tup (kvs.map fun kv => kV kv.1)))
theorem call_tuple_dK {X : Cx} (hc : X.calm = true) : CallR X (.type "tuple") rTupD := by
  intro pins s σ H xs us Q I r h
  obtain ⟨p, kvs, e, hk, q⟩ := h
  subst e
  obtain ⟨u, eu, rx⟩ := vals1 r
  subst eu
  obtain rfl : u = Value.ref p := rx
  obtain ⟨z, lo, vs, rk, hd⟩ := (show ObjOk X.prog X.w H s.heap p (.dK kvs) from I.hok p _ hk)
  obtain ⟨ep, hat⟩ := hd.dictAt
  have hl : kvs.length = vs.length := Paired.length rk
  have ek : (kvs.map fun kv => kV kv.1) = vs.map fun p => kV p.1 := by
    have e := congrArg (List.map kV) (KV.keys rk)
    rw [List.map_map, List.map_map] at e
    exact e
  refine call_tuple_kd (PySem.W.kdl_dict (knd := mixKind X.prog X.w) (kvs := vs) (ep := ep) lo) (I.ok.hd hc) hat (by rw [← hl]; exact z) fun h' tk acc hkeep hacc => ?_
  have hv : Vals (vs.map fun p => kV p.1) acc.toList := keys_at (by rw [Array.length_toList]; exact hacc.1) fun j v e => hacc.2 j v (by rw [← Array.getElem?_toList]; exact e)
  have I1 : Inv X pins σ H { s with heap := h', toks := tk } := I.kept (t' := tk) hkeep
  have I2 : Inv X pins σ (upd H h'.objs.size (.tup (kvs.map fun kv => kV kv.1))) { s with heap := h'.push { cls := .type "tuple", data := .seq acc }, toks := tk } :=
    I1.laid (t' := tk) (fun b o e => Heap.get?_push_of_some _ e) (Nat.le_refl _) (show ObjOk X.prog X.w _ _ _ (.tup _) from ⟨by rw [List.length_map]; exact z, acc.toList, by rw [ek]; exact hv, by rw [Array.toArray_toList]; exact IsTup.new _ _⟩)
  exact ⟨.ref h'.objs.size, _, I2, rfl, q _ (I1.hok.fresh (Nat.le_refl _))⟩
/-- o.m(e, .., k = v, ..) -/
def tMethK (C : Addr) (m : Str) (n l : Nat) (sp : Sp) (gV : List V → List V → List V) (E : XK) (ta : TE) (t tk : TA) : TE := fun σ H Q => ta σ H fun x H1 => ∃ a dx fs, x = .ref a ∧ H1 a = some (.ins C dx fs) ∧ fs.lookup m = none ∧
  t σ H1 fun vs H2 => tk σ H2 fun zs H3 => vs.length = n ∧ zs.length = l ∧ sp (gV (x :: vs) zs) H3 Q E
section
variable {X : Cx} {CX : CXT} {k n : Nat} {f C : Addr} {fd : FuncData} {ps ks : List Str} {sp : Sp} {E : XK} {m : Str} {p pos apos : Pos} {o e : Expr} {es : List Expr} {kws : List Keyword} {ta : TE} {t tk : TA} {g : List Value → List Value → List Value} {gV : List V → List V → List V}
theorem run_fnKw {pins : List (Addr × Obj)} {σ : L2.St} {H : Hp} {s : Shared} {Q : VK} {us ws : List Value} {vs zs : List V} (F : FnOk X.prog X.w X.K X.mg X.base CX k f fd ps sp) (hr : Room k X.A) (hb : KBn X.K fd ps n ks g gV) (hx : Passes CX X E)
    (I : Inv X pins σ H s) (r : Vals vs us) (rz : Vals zs ws) (l1 : vs.length = n) (l2 : zs.length = ks.length) (h : sp (gV vs zs) H Q E) : wpAny (model X.prog X.w) X.A (call (.ref f) us (ks.zip ws)) (EP X pins σ Q) X.xe s := by
  have r2 := hb.rel r rz
  refine wpAny_call (codeAny_mono (F.run X.A X.stack s H ⟨us, ks.zip ws⟩ (g us ws) (gV vs zs) Q E hr I.env0 (hb.to s us ws I.kIn (by rw [← r.length]; exact l1) (by rw [← rz.length]; exact l2)) r2 h) fun r s' hq => ?_)
  cases r with
  | error e => exact hx pins σ H s e s' I hq
  | ok fl =>
    cases fl with
    | ret u => exact I.after hq
    | next => exact False.elim hq
    | brk => exact False.elim hq
    | cont => exact False.elim hq
theorem pe_methK {pl : Sem Bool} (he : PE X o ta) (c : Cls X.K C) (hm : Meth X.K C m f) (F : FnOk X.prog X.w X.K X.mg X.base CX k f fd ps sp) (hr : Room k X.A) (hb : KBn X.K fd ps (n + 1) ks g gV) (hx : Passes CX X E) (ha : PA X (e :: es) t) (hkw : PK X kws tk)
    (hall : (backToKw pos (keywordEach kws X.env)).all (·.1.isSome) = true := by rfl) (hks : (backToKw pos (keywordEach kws X.env)).filterMap (·.1) = ks := by rfl)
    (hst : starEach (e :: es) X.env = (false, eval e X.env) :: starEach es X.env := by rfl) (hpl : ((backTo pos (starEach (e :: es) X.env)).any (·.1) || (backToKw pos (keywordEach kws X.env)).any (·.1.isNone)) = false := by rfl)
    (ht : eval (.Call (.Attribute o m apos) (e :: es) kws pos) X.env = (do
      let ov ← eval o X.env
      standAt apos.atName
      let (f, first) ← holding [ov] (getMethod ov m pl)
      callWith pos f first (backTo pos (starEach (e :: es) X.env)) (backToKw pos (keywordEach kws X.env))) := by rfl) :
    PE X (.Call (.Attribute o m apos) (e :: es) kws pos) (tMethK C m n ks.length sp gV E ta t tk) := by
  refine ⟨fun pins s σ H Q I h => ?_⟩
  refine PySem.W.methodCall_KW (pl := pl) (thn (he.run pins s σ H _ I h) fun u s1 ⟨x, H1, I1, rx, a, dx, fs, ex, ea, l, q⟩ => ?_) ht
  subst ex
  obtain rfl : u = Value.ref a := rx
  refine getmeth_ok I1 ea c hm l ?_
  refine PySem.W.callWith_KW (first := [.ref a]) (h₀ := X.base) I.ok.mod.kin hm.kp hall (thn (ha.run pos pins s1 σ H1 _ I1 q) fun us s2 ⟨vs, H2, I2, r, q2⟩ => ?_) hpl hst
  refine thn (hkw.run pos pins s2 σ H2 _ I2 q2) fun ws s3 ⟨zs, H3, I3, rz, l1, l2, q3⟩ => ⟨I3.kIn, ?_⟩
  rw [hks]
  exact run_fnKw (us := .ref a :: us) (vs := .ref a :: vs) F hr hb hx I3 (.cons rfl r) rz (by rw [List.length_cons, l1]) l2 q3
end
/-- clauses as n, then any that are never asked -/
inductive HdsAsF (X : Cx) (n : Str) : List ExceptHandler → AsL → Prop
  | nil (hds : List ExceptHandler) : HdsAsF X n hds []
  | cons {x : Str} {c : Value} {ts : Addr → Value → Option Addr → TS} {b₀ : Stmt} {suite : List Stmt} {np pos' : Pos} {hds : List ExceptHandler} {l : AsL} (hc : Names X x c)
      (hsu : ∀ (a : Addr) (oe : Obj) (cls : Value) (d : Option Addr) (pn : List (Addr × Obj)), Zc cls d oe → (∃ vs, oe.data = .fields vs) → PSs (X.suite a ((a, oe) :: pn)) (b₀ :: suite) (ts a cls d)) (r : HdsAsF X n hds l) :
      HdsAsF X n (.ExceptHandler (some (.Name x np)) (some n) (b₀ :: suite) pos' :: hds) ((c, ts) :: l)
def wNo : WX := fun _ _ _ _ => False
section
variable {X : Cx} {n : Str} {i : Nat} {body : List Stmt} {h₀ : ExceptHandler} {hds : List ExceptHandler} {l : AsL} {pos : Pos} {tb : WX → TS} 
theorem ps_try_manyAsF (hs : X.stack = X.env :: X.outer) (hf : X.env.frame = some X.env.locals) (hN : X.N.Nodup) (hi : X.N[i]? = some n) (hln : X.env.kindOf n = some .local) 
    (hb : ∀ (W : WX) (pn : List (Addr × Obj)) (xe : Value → Shared → Prop), Takes (X.tr pn xe) W → PassesOwn (model X.prog X.w) X.A X.env xe → PSs (X.tr pn xe) body (tb W))
    (hh : HdsAsF X n (h₀ :: hds) l) : PS X (.Try body (h₀ :: hds) [] [] pos) (fun D σ H => tb (wManyAs X.K i wNo D l) D σ H) := by
  refine ⟨fun pins s σ H D I h => ?_⟩
  have ok := I.ok
  have hfr : X.A.frames = some (X.env :: X.outer) := by rw [ok.frames, hs]
  have hloc : Loc X.env.scope n := .inl hln
  refine wpAny_Try_except ?_
  refine wpAny_mono ((hb (wManyAs X.K i wNo D l) (X.pn ++ pins) (fun e s₁ => wpAny (model X.prog X.w) X.A (noteFrame e X.env) (fun _ s₂ => wpAny (model X.prog X.w) X.A (setFlight e none) (fun _ s₃ =>
    wpAny (model X.prog X.w) X.A (handleBy e X.env (h₀ :: hds)) (SP X pins D) X.xe s₃) X.xe s₂) X.xe s₁) (fun u s' xx => ?_) PassesOwn.looking).run [] s σ H D (I.toTry _) h) (fun f s1 hsp => ?_) (fun e s1 he => he)
  · obtain ⟨a, B, sI, pins', σ', H', cls, d, rfl, J', nb, up, sky, na, os, ag, w⟩ := xx
    have J : Inv X pins σ' H' sI := J'.ofTry ok
    have sky' : Sky B (X.env :: X.outer) a (Zc cls d) X.env.locals s'.heap := by rw [← hs]; exact sky
    show wpAny (model X.prog X.w) X.A (noteFrame (.ref a) X.env) _ _ _
    refine Sky.land Zc.steady hfr hf sky' fun h3 fl3 up3 => ?_
    have J3 : Inv X pins σ' H' { s' with heap := h3 } := J.landed nb fl3.1 (up.trans up3) os ag
    obtain ⟨oe3, vs3, he3, hz3, hd3⟩ := fl3.there
    have notFr : ∀ {h : Heap} {o : Obj} {vs : Array Value}, h.FunFrames B (X.env :: X.outer) → h.get? a = some o → o.data = .fields vs → a ∉ frs (X.env :: X.outer) := fun {h o vs} ff e dd hm => by
      obtain ⟨_, o', e', hnf⟩ := ff.mem hm
      rw [e] at e'; cases e'
      exact hnf _ dd
    have nfr := notFr fl3.2.2.1 he3 hd3
    have nL : a ≠ X.env.locals := fun z => nfr (List.mem_filterMap.mpr ⟨X.env, List.mem_cons_self, by rw [hf, z]⟩)
    have nF : a ∉ X.fs := fun hm => by
      obtain ⟨e, he, q⟩ := List.mem_filterMap.mp hm
      exact nfr (List.mem_filterMap.mpr ⟨e, List.mem_cons_of_mem _ he, q⟩)
    have S3 := J3.suite he3 hd3 na nL nF
    have go : ∀ {hds' : List ExceptHandler} {l' : AsL}, HdsAsF X n hds' l' → wManyAs X.K i wNo D l' cls d σ' H' →
        wpAny (model X.prog X.w) X.A (handleBy (.ref a) X.env hds') (SP X pins D) X.xe { s' with heap := h3 } := by
      intro hds' l' hk
      induction hk with
      | nil hds0 =>
        intro w
        exact (show False from w).elim
      | @cons x c ts b₀ suite np pos' hds2 l2 hc hsu r ih =>
        intro w
        obtain ⟨b, hb1, hyes, hno⟩ := w
        refine wpAny_handleBy_cons (codeAny_handlers_test ?_) (by intro q; cases q)
        have LT : PySem.W.Looks (model X.prog X.w) h3 (typeOf (.ref a)) cls := fun A Q E s k q => wpAny_typeOf_ref (k _ _ he3) (by rw [hz3.1]; exact q)
        have LM := PySem.W.exm_one (M := model X.prog X.w) (J3.kIn) LT hb1
        have test : ∀ {Q : Value → Shared → Prop} {E : Value → Shared → Prop}, Q c { s' with heap := h3 } → wpAny (model X.prog X.w) (X.A.mark (some (.ref a))) (eval (.Name x np) X.env) Q E { s' with heap := h3 } := fun {Q E} q => by
          obtain ⟨hg, hdbg, hm | ⟨hm, hv, hnn⟩⟩ := hc
          · exact ld_glob (X := X.suite a ((a, oe3) :: (X.pn ++ pins))) S3 hg hm q hdbg
          · exact ld_blt (X := X.suite a ((a, oe3) :: (X.pn ++ pins))) S3 hg hm hv q hnn hdbg
        refine test (LM.here ?_)
        cases b with
        | true =>
          refine codeAny_handlers_suite_as ?_
          refine HandSPX.lands_againZ fl3 fun h4 fl4 up4 => ?_
          have J4 : Inv X pins σ' H' { s' with heap := h4 } := J.landed nb fl4.1 ((up.trans up3).trans up4) os ag
          obtain ⟨oe4, vs4, he4, hz4, hd4⟩ := fl4.there
          have S4 := J4.suite he4 hd4 na nL nF
          refine store_ok (X := X.suite a ((a, oe4) :: (X.pn ++ pins))) (v := .ref a) S4 hN hi hloc rfl (fun s5 S5 => ?_) (.inr hln)
          refine wpAny_mono ((hsu a oe4 cls d (X.pn ++ pins) hz4 ⟨_, hd4⟩).run [] s5 _ H' _ S5 (hyes rfl a na)) (fun f s6 hsp => ?_) (fun _ _ z => False.elim z)
          have end_ : ∀ {σ6 : L2.St} {H6 : Hp} {Q : Shared → Prop}, Inv (X.suite a ((a, oe4) :: (X.pn ++ pins))) [] σ6 H6 s6 → (∀ s7, Inv X pins (σ6.set i none) H6 s7 → Q s7) →
              wpAny (model X.prog X.w) X.A (do bindName X.env n .none; unbindBehindTheSuite X.env n pos') (fun _ s7 => Q s7) X.xe s6 := fun {σ6 H6 Q} S6 hq => gone_ok (S6.unsuite ok) hN hi hln hq
          cases f with
          | next =>
            obtain ⟨σ6, H6, S6, q6⟩ := hsp
            exact end_ S6 fun s7 J7 => ⟨_, _, J7, q6⟩
          | brk =>
            obtain ⟨σ6, H6, S6, q6⟩ := hsp
            exact end_ S6 fun s7 J7 => ⟨_, _, J7, q6⟩
          | cont =>
            obtain ⟨σ6, H6, S6, q6⟩ := hsp
            exact end_ S6 fun s7 J7 => ⟨_, _, J7, q6⟩
          | ret u =>
            obtain ⟨v6, σ6, H6, S6, r6, q6⟩ := hsp
            exact end_ S6 fun s7 J7 => ⟨_, _, _, J7, r6, q6⟩
        | false =>
          show wpAny _ X.A (handleBy (.ref a) X.env hds2) _ _ _
          exact ih (hno rfl)
    exact go hh w
  · cases f with
    | next =>
      obtain ⟨σ', H', J', q⟩ := hsp
      exact wpAny_execs_nil ⟨σ', H', J'.ofTry ok, q⟩
    | brk =>
      obtain ⟨σ', H', J', q⟩ := hsp
      exact ⟨σ', H', J'.ofTry ok, q⟩
    | cont =>
      obtain ⟨σ', H', J', q⟩ := hsp
      exact ⟨σ', H', J'.ofTry ok, q⟩
    | ret u =>
      obtain ⟨v, σ', H', J', r, q⟩ := hsp
      exact ⟨v, σ', H', J'.ofTry ok, r, q⟩
end
theorem no_swapS3 {env : Env} (hk : env.scope.kind = .function) {o1 o2 o3 : Expr} {i1 i2 i3 : Expr} {q1 q2 q3 q4 : Pos} {n1 : Nat} {v : Expr} : swappedStores [.Tuple [.Subscript o1 i1 q1, .Subscript o2 i2 q2, .Subscript o3 i3 q3] n1 q4] v env = pure none := by
  have e : env.blockKind = .function := by
    unfold Env.blockKind
    rw [hk]
    rfl
  unfold swappedStores
  cases v <;> first | rfl | skip
  rename_i vs _ _
  simp only [e]
  split
  · rfl
  · split
    · rfl
    · rename_i h
      split
      · rfl
      · rename_i h2
        exact absurd (by rfl) h2
/-- what is taken of slots of the right number -/
theorem takes_len {X : Cx} {W : WX} (tk : Takes X W) : Takes X (fun cls d σ H => σ.length = X.N.length → W cls d σ H) := fun u s' x => by
  obtain ⟨a, B, sI, pins', σ', H', cls, d, e, J, nb, up, sky, na, os, ag, w⟩ := x
  exact tk _ _ ⟨a, B, sI, pins', σ', H', cls, d, e, J, nb, up, sky, na, os, ag, w J.len⟩
end EX2
set_option Elab.async false
set_option linter.all false
set_option maxRecDepth 100000
set_option maxHeartbeats 0
/-! identity; a loader's in and [..] -/
namespace K06
open PySem PySem.Spec PyProof.Rows L2 EX2 TX
def spIdent (K : PySem.W.Frag) : Sp := fun vs H Q E => ∃ (t : Addr) (x y : V) (d dn : PyData) (S : List Ent), vs = [.ref t, x, y] ∧ TbAt (He.ga K "Tables") H t S ∧ Dq H x d ∧ okD d = true ∧
  ((inT S d = false ∧ Rs E H (He.ga K "UnknownLoader") "given" x) ∨ (inT S d = true ∧ Dq H y dn ∧ okD dn = true ∧
    ((nameD dn = false ∧ Rs E H (He.ga K "InvalidName") "given" y) ∨ ∃ z n e, d = .str z ∧ dn = .str n ∧ nameD dn = true ∧ n ≠ ("top" : Str) ∧ ent S z = some e ∧ hasT e n = false ∧ hasA e n = false ∧ ∀ H', Evl.Ex H H' → Q .non H')))
def spLHas : Sp := fun vs H Q _ => ∃ (l : Addr) (y : V) (dn : PyData), vs = [.ref l, y] ∧ Dq H y dn ∧ okD dn = true ∧ nameD dn = false ∧ ∀ H', Evl.Ex H H' → Q (.bl false) H'
def LdAt (C : Addr) (H : Hp) (l t : Addr) (z : Str) : Prop := ∃ dl, H l = some (.ins C dl [("own_tables", .ref t), ("own_name", .str z)])
def spLGet (K : PySem.W.Frag) : Sp := fun vs H Q E => ∃ (l t : Addr) (z : Str) (y : V) (dn : PyData) (S : List Ent) (e : Ent), vs = [.ref l, y] ∧ LdAt (He.ga K "Loader") H l t z ∧ okD (.str z) = true ∧ TbAt (He.ga K "Tables") H t S ∧ ent S z = some e ∧ Dq H y dn ∧ okD dn = true ∧
  ((nameD dn = false ∧ Rs E H (He.ga K "InvalidName") "given" y) ∨ ∃ n, dn = .str n ∧ nameD dn = true ∧ n ≠ ("top" : Str) ∧ hasT e n = false ∧ hasA e n = false ∧ ∀ H', Evl.Ex H H' → Ru K E H' (.str z) y)
theorem inT_ent {S : List Ent} {z : Str} {e : Ent} (h : ent S z = some e) : inT S (.str z) = true := by
  show (ent S z).isSome = true
  rw [h]
  rfl
section
variable {P : Program} {w : World} {K : PySem.W.Frag} {mg : Str → Option Value} {base : Heap} {f : Addr} {fd : FuncData}
abbrev sTables_identity : Stmt := inClass (top 41) 11
abbrev nTables_identity : List Str := ["self", "loader", "name", "found"]
theorem scTables_identity : FnScope nTables_identity ["self", "loader", "name"] (defScope sTables_identity) := ⟨rfl, rfl, rfl, by decide +kernel, rfl, by decide +kernel, by decide +kernel⟩
theorem okTables_identity (F : FunD K "identity" "Tables.identity" (defArgs sTables_identity) (defBody sTables_identity) (defScope sTables_identity) [] [] f fd) (D : TK P w K mg base) : FnOk P w K mg base (L2.CX P w) 5 f fd ["self", "loader", "name"] (spIdent K) := by
  have T := D.t
  obtain ⟨tTop, gTop⟩ := D.d.topn
  obtain ⟨fdm_way, Fm_way⟩ := D.f_way
  have Gm_way := okTables_way (P := P) (w := w) (base := base) Fm_way D
  have bm_way : Binds K fdm_way ["self", "loader", "name"] [] := FunD.bindsN Fm_way fun _ _ _ _ _ _ us hl => match us, hl with | [_, _, _], _ => rfl
  refine F.ok scTables_identity (fun vs H Q E h => ?_) (fun cdv A outer s H vs Q E hr h => ?_)
  · obtain ⟨t, x, y, d, dn, S, rfl, _⟩ := h
    rfl
  · obtain ⟨t, x, y, d, dn, S, rfl, hT, hx, ho, h⟩ := h
    refine ⟨_, (pss_cons (ps_set (i := 3) scTables_identity.nd rfl (Or.inl rfl) (pe_meth (pv 0) D.c.cl D.m_way Gm_way (hr.mono (by decide)) bm_way .nil (passes_call (takes_of rfl rfl rfl rfl) fun _ _ _ _ h => h) (pa_cons (pv 1) (pa_cons (pv 2) pa_nil))))
      (pss_cons (ps_if (pt_cmpR op_eq (pv 2) (pe_glob rfl gTop (v := .str "top") ⟨tTop, rfl⟩) (nomark _))
        pss_no
        pss_nil)
      (pss_one (ps_ret (pe_ifExp (pt_cmpR (op_eqD hr.units) (pv 3) (pe_tup pa_nil) (nomark _)) pe_non pe_no))))), ?_⟩
    have hT0 := hT
    obtain ⟨D1, D2, D3, ⟨dt, ht⟩, h1, h2, h3, h4⟩ := hT0
    refine ⟨_, rfl, t, dt, _, rfl, ht, rfl, _, rfl, _, rfl, t, x, y, d, dn, S, rfl, hT, hx, ho, ?_⟩
    rcases h with ⟨e, hE⟩ | ⟨e, hy, hn, h⟩
    · exact .inl ⟨e, hE⟩
    refine .inr ⟨e, hy, hn, ?_⟩
    rcases h with ⟨e2, hE⟩ | ⟨z, n, en, rfl, rfl, hnm, hnt, hen, hnT, hnA, hQ⟩
    · exact .inl ⟨e2, hE⟩
    refine .inr ⟨z, n, en, rfl, rfl, hnm, hen, hnT, hnA, fun r H1 e1 hr1 => ?_⟩
    cases hx
    cases hy
    refine ⟨_, rfl, rfl, _, rfl, ?_⟩
    refine ifF (decide_eq_false fun q => hnt (V.str.inj q)) ?_
    refine ⟨_, rfl, le_line (by simp), fun q hq => ?_⟩
    have e2 := Evl.Ex.new (o := .tup []) hq
    refine ⟨.tuple [], .tuple [], dp_q (.tup (e2 _ _ hr1) .nil) rfl, dp_q (.tup upd_same .nil) rfl, by decide +kernel, by decide +kernel, ?_⟩
    exact ⟨_, rfl, ifT (by decide +kernel) (hQ _ (e1.trans e2))⟩
abbrev sLoader___contains__ : Stmt := inClass (top 40) 5
abbrev nLoader___contains__ : List Str := ["self", "obj"]
theorem scLoader___contains__ : FnScope nLoader___contains__ ["self", "obj"] (defScope sLoader___contains__) := ⟨rfl, rfl, rfl, by decide +kernel, rfl, by decide +kernel, by decide +kernel⟩
theorem okLoader___contains__ (F : FunD K "__contains__" "Loader.__contains__" (defArgs sLoader___contains__) (defBody sLoader___contains__) (defScope sLoader___contains__) [] [] f fd) (D : TK P w K mg base) : FnOk P w K mg base CX0 2 f fd ["self", "obj"] spLHas := by
  have T := D.t
  obtain ⟨fis_name, fdis_name, gis_name, Fis_name⟩ := D.is_name
  have Gis_name := okis_name (P := P) (base := base) Fis_name D.d
  have bis_name : Binds K fdis_name ["value"] [] := Fis_name.bindsN fun _ _ _ _ _ _ us hl => match us, hl with | [_], _ => rfl
  refine F.ok scLoader___contains__ (fun vs H Q E h => ?_) (fun cdv A outer s H vs Q E hr h => ?_)
  · obtain ⟨l, y, dn, rfl, _⟩ := h
    rfl
  · obtain ⟨l, y, dn, rfl, hy, hn, hnm, hQ⟩ := h
    refine ⟨_, PSs.nox (pss_one (ps_ret (pe_and (pe_call Gis_name (hr.mono (by decide)) rfl gis_name Fis_name.kp bis_name .nil pass0 (pa_cons (pv 1) pa_nil)) (pe_one pe_no)))), ?_⟩
    refine ⟨_, rfl, y, dn, rfl, hy, hn, fun H1 e1 => ⟨_, rfl, ?_⟩⟩
    rw [hnm]
    exact ifF rfl (hQ _ e1)
abbrev sLoader___getitem__ : Stmt := inClass (top 40) 7
abbrev nLoader___getitem__ : List Str := ["self", "name", "found"]
theorem scLoader___getitem__ : FnScope nLoader___getitem__ ["self", "name"] (defScope sLoader___getitem__) := ⟨rfl, rfl, rfl, by decide +kernel, rfl, by decide +kernel, by decide +kernel⟩
theorem okLoader___getitem__ (F : FunD K "__getitem__" "Loader.__getitem__" (defArgs sLoader___getitem__) (defBody sLoader___getitem__) (defScope sLoader___getitem__) [] [] f fd) (D : TK P w K mg base) : FnOk P w K mg base (L2.CX P w) 6 f fd ["self", "name"] (spLGet K) := by
  have T := D.t
  obtain ⟨fdi, Fi⟩ := D.f_identity
  have Gi := okTables_identity (P := P) (w := w) (base := base) Fi D
  have bi : Binds K fdi ["self", "loader", "name"] [] := FunD.bindsN Fi fun _ _ _ _ _ _ us hl => match us, hl with | [_, _, _], _ => rfl
  obtain ⟨fdE_uc, GE_uc, bE_uc⟩ := D.uc.fn
  refine F.ok scLoader___getitem__ (fun vs H Q E h => ?_) (fun cdv A outer s H vs Q E hr h => ?_)
  · obtain ⟨l, t, z, y, dn, S, e, rfl, _⟩ := h
    rfl
  · obtain ⟨l, t, z, y, dn, S, e, rfl, ⟨dl, hl⟩, hz, hT, he, hy, hn, h⟩ := h
    refine ⟨_, (pss_cons (ps_set (i := 2) scLoader___getitem__.nd rfl (Or.inl rfl) (pe_meth (pe_fld (pv 0) rfl) D.c.cl D.m_identity Gi (hr.mono (by decide)) bi .nil (passes_call (takes_of rfl rfl rfl rfl) fun _ _ _ _ h => h) (pa_cons (pe_fld (pv 0) rfl) (pa_cons (pv 1) pa_nil))))
      (pss_cons (ps_if (pt_cmpR op_isN (pv 2) pe_non (nomark _))
        (pss_one (ps_raise rfl (takes_of rfl rfl rfl rfl) (pmk_xk D.uc.g.t D.uc.g.at_ D.uc.g.ty GE_uc (hr.mono (by decide)) bE_uc rfl D.uc.hm (by decide) (pa_cons (pe_fld (pv 0) rfl) (pa_cons (pv 1) pa_nil)))))
        pss_nil)
      (pss_one (ps_ret (pv 2))))), ?_⟩
    have hT0 := hT
    obtain ⟨D1, D2, D3, ⟨dt, ht⟩, h1, h2, h3, h4⟩ := hT0
    refine ⟨_, rfl, l, _, dl, _, _, rfl, hl, D.clL, D.nL1, rfl, t, dt, _, rfl, ht, rfl, _, rfl, l, _, dl, _, _, rfl, hl, D.clL, D.nL2, rfl, _, rfl, t, .str z, y, .str z, dn, S, rfl, hT, .str z, hz, .inr ⟨inT_ent he, hy, hn, ?_⟩⟩
    rcases h with ⟨e2, hE⟩ | ⟨n, rfl, hnm, hnt, hnT, hnA, hE⟩
    · exact .inl ⟨e2, hE⟩
    refine .inr ⟨z, n, e, rfl, rfl, hnm, hnt, he, hnT, hnA, fun H1 e1 => ⟨_, rfl, rfl, _, rfl, ?_⟩⟩
    refine ifT rfl ⟨_, rfl, l, _, dl, _, _, rfl, e1 _ _ hl, D.clL, D.nL2, rfl, _, rfl, rfl, fun dE HE eE hE' => hE _ e1 dE HE eE hE'⟩
end
end K06

set_option Elab.async false
set_option linter.all false
set_option maxRecDepth 100000
set_option maxHeartbeats 0
/-! tables that change: nothing in them is one object twice -/
namespace K06
open PySem PySem.Spec PyProof.Rows L2 EX2 TX
structure Apart (D1 D2 D3 : Addr) (S : List Ent) : Prop where
  d12 : D1 ≠ D2
  d13 : D1 ≠ D3
  d23 : D2 ≠ D3
  dT : ∀ e ∈ S, e.T ≠ D1 ∧ e.T ≠ D2 ∧ e.T ≠ D3
  dA : ∀ e ∈ S, e.A ≠ D1 ∧ e.A ≠ D2 ∧ e.A ≠ D3
  tt : ∀ e ∈ S, ∀ e' ∈ S, e.name ≠ e'.name → e.T ≠ e'.T ∧ e.A ≠ e'.A
  ta : ∀ e ∈ S, ∀ e' ∈ S, e.T ≠ e'.A
structure TbX (C : Addr) (H : Hp) (t D1 D2 D3 : Addr) (S : List Ent) : Prop where
  ob : TObj C H t D1 D2 D3
  h1 : H D1 = some (.dK (dT S))
  h2 : H D2 = some (.dK (dA S))
  h3 : H D3 = some (.dK (dR S))
  h4 : ∀ e ∈ S, H e.T = some (.dK (kvT e)) ∧ H e.A = some (.dK (kvA e))
  ap : Apart D1 D2 D3 S
  nn : (S.map (·.name)).Nodup
section
variable {C : Addr} {H H' : Hp} {t D1 D2 D3 : Addr} {S : List Ent}
theorem TbX.at_ (h : TbX C H t D1 D2 D3 S) : TbAt C H t S := ⟨D1, D2, D3, h.ob, h.h1, h.h2, h.h3, h.h4⟩
theorem TbX.ext (h : TbX C H t D1 D2 D3 S) (e : Evl.Ex H H') : TbX C H' t D1 D2 D3 S := by
  obtain ⟨dt, ht⟩ := h.ob
  exact ⟨⟨dt, e _ _ ht⟩, e _ _ h.h1, e _ _ h.h2, e _ _ h.h3, fun x hx => ⟨e _ _ (h.h4 x hx).1, e _ _ (h.h4 x hx).2⟩, h.ap, h.nn⟩
theorem ent_none {z : Str} (h : inT S (.str z) = false) : ∀ e ∈ S, e.name ≠ z := by
  intro e he q
  have : (ent S z).isSome = true := by
    unfold ent
    rw [List.find?_isSome]
    exact ⟨e, he, by simpa using q⟩
  rw [show (ent S z).isSome = inT S (.str z) from rfl, h] at this
  cases this
theorem TbX.push (h : TbX C H t D1 D2 D3 S) {z : Str} {T A : Addr} {ts : List (Str × V)} {as : List (Str × Str)} (hz : inT S (.str z) = false) (nT : H T = none) (nA : H A = none) (hTA : T ≠ A)
    (kT : H' T = some (.dK (kvT ⟨z, T, A, ts, as⟩))) (kA : H' A = some (.dK (kvA ⟨z, T, A, ts, as⟩))) (k1 : H' D1 = some (.dK (dT S ++ [(.inr z, .ref T)]))) (k2 : H' D2 = some (.dK (dA S ++ [(.inr z, .ref A)]))) (k3 : H' D3 = some (.dK (dR S ++ [(.inr z, .non)])))
    (k : ∀ b o, b ≠ D1 → b ≠ D2 → b ≠ D3 → H b = some o → H' b = some o) : TbX C H' t D1 D2 D3 (S ++ [⟨z, T, A, ts, as⟩]) := by
  obtain ⟨dt, ht⟩ := h.ob
  have ne : ∀ {a b : Addr} {o : HO}, H a = none → H b = some o → b ≠ a := fun ha hb q => by rw [q, ha] at hb; cases hb
  refine ⟨⟨dt, k _ _ ?_ ?_ ?_ ht⟩, ?_, ?_, ?_, ?_, ?_, ?_⟩
  · rintro rfl; rw [h.h1] at ht; cases ht
  · rintro rfl; rw [h.h2] at ht; cases ht
  · rintro rfl; rw [h.h3] at ht; cases ht
  · rw [k1]; unfold dT; rw [List.map_append]; rfl
  · rw [k2]; unfold dA; rw [List.map_append]; rfl
  · rw [k3]; unfold dR; rw [List.map_append]; rfl
  · intro e he
    rcases List.mem_append.mp he with he | he
    · exact ⟨k _ _ (h.ap.dT e he).1 (h.ap.dT e he).2.1 (h.ap.dT e he).2.2 (h.h4 e he).1, k _ _ (h.ap.dA e he).1 (h.ap.dA e he).2.1 (h.ap.dA e he).2.2 (h.h4 e he).2⟩
    · rw [List.mem_singleton.mp he]
      exact ⟨kT, kA⟩
  · have nz := ent_none hz
    refine ⟨h.ap.d12, h.ap.d13, h.ap.d23, fun e he => ?_, fun e he => ?_, fun e he e' he' q => ?_, fun e he e' he' => ?_⟩
    · rcases List.mem_append.mp he with he | he
      · exact h.ap.dT e he
      · rw [List.mem_singleton.mp he]
        exact ⟨Ne.symm (ne nT h.h1), Ne.symm (ne nT h.h2), Ne.symm (ne nT h.h3)⟩
    · rcases List.mem_append.mp he with he | he
      · exact h.ap.dA e he
      · rw [List.mem_singleton.mp he]
        exact ⟨Ne.symm (ne nA h.h1), Ne.symm (ne nA h.h2), Ne.symm (ne nA h.h3)⟩
    · rcases List.mem_append.mp he with he | he <;> rcases List.mem_append.mp he' with he' | he'
      · exact h.ap.tt e he e' he' q
      · rw [List.mem_singleton.mp he']
        exact ⟨ne nT (h.h4 e he).1, ne nA (h.h4 e he).2⟩
      · rw [List.mem_singleton.mp he]
        exact ⟨Ne.symm (ne nT (h.h4 e' he').1), Ne.symm (ne nA (h.h4 e' he').2)⟩
      · rw [List.mem_singleton.mp he, List.mem_singleton.mp he'] at q
        exact absurd rfl q
    · rcases List.mem_append.mp he with he | he <;> rcases List.mem_append.mp he' with he' | he'
      · exact h.ap.ta e he e' he'
      · rw [List.mem_singleton.mp he']
        exact ne nA (h.h4 e he).1
      · rw [List.mem_singleton.mp he]
        exact Ne.symm (ne nT (h.h4 e' he').2)
      · rw [List.mem_singleton.mp he, List.mem_singleton.mp he']
        exact hTA
  · rw [List.map_append, List.nodup_append]
    refine ⟨h.nn, by simp, fun a ha b hb q => ?_⟩
    obtain ⟨e, he, rfl⟩ := List.mem_map.mp ha
    rw [List.map_singleton, List.mem_singleton] at hb
    exact ent_none hz e he (q.trans hb)
end
/-- one entry changed -/
def updE (S : List Ent) (z : Str) (g : Ent → Ent) : List Ent := S.map fun e => if e.name = z then g e else e
def addT (n : Str) (v : V) (e : Ent) : Ent := { e with ts := e.ts ++ [(n, v)] }
def addA (n o : Str) (e : Ent) : Ent := { e with as := e.as ++ [(n, o)] }
theorem hasT_addT (n m : Str) (v : V) (e : Ent) : hasT (addT n v e) m = (hasT e m || decide (n = m)) := by
  unfold hasT addT
  rw [List.find?_append]
  cases e.ts.find? fun q => decide (q.1 = m) with
  | some q => rfl
  | none => by_cases h : n = m <;> simp [h]
theorem hasA_addT (n m : Str) (v : V) (e : Ent) : hasA (addT n v e) m = hasA e m := rfl
theorem hasT_addA (n o m : Str) (e : Ent) : hasT (addA n o e) m = hasT e m := rfl
theorem hasA_addA (n o m : Str) (e : Ent) : hasA (addA n o e) m = (hasA e m || decide (n = m)) := by
  unfold hasA addA
  rw [List.find?_append]
  cases e.as.find? fun q => decide (q.1 = m) with
  | some q => rfl
  | none => by_cases h : n = m <;> simp [h]
theorem ent_updE {S : List Ent} {z : Str} {g : Ent → Ent} (hg : ∀ e, (g e).name = e.name) (y : Str) : ent (updE S z g) y = (ent S y).map fun e => if y = z then g e else e := by
  unfold ent updE
  induction S with
  | nil => rfl
  | cons e S ih =>
    rw [List.map_cons]
    by_cases q : e.name = y
    · rw [List.find?_cons_of_pos (by simp; split <;> simp [hg, q]), List.find?_cons_of_pos (by simpa using q)]
      rw [q]
      rfl
    · rw [List.find?_cons_of_neg (by simp; split <;> simp [hg, q]), List.find?_cons_of_neg (by simpa using q)]
      exact ih
theorem map_updE {β : Type} {S : List Ent} {z : Str} {g : Ent → Ent} {h : Ent → β} (hg : ∀ e, h (g e) = h e) : (updE S z g).map h = S.map h := by
  unfold updE
  rw [List.map_map]
  refine List.map_congr_left fun e _ => ?_
  show h (if e.name = z then g e else e) = h e
  split
  · exact hg e
  · rfl
theorem mem_updE {S : List Ent} {z : Str} {g : Ent → Ent} {e : Ent} (h : e ∈ updE S z g) : ∃ e0 ∈ S, e = if e0.name = z then g e0 else e0 := by
  obtain ⟨e0, h0, rfl⟩ := List.mem_map.mp h
  exact ⟨e0, h0, rfl⟩
section
variable {C : Addr} {H H' : Hp} {t D1 D2 D3 : Addr} {S : List Ent}
theorem Apart.updE {z : Str} {g : Ent → Ent} (h : Apart D1 D2 D3 S) (g1 : ∀ e, (g e).name = e.name) (g2 : ∀ e, (g e).T = e.T) (g3 : ∀ e, (g e).A = e.A) : Apart D1 D2 D3 (updE S z g) := by
  have same : ∀ e ∈ K06.updE S z g, ∃ e0 ∈ S, e.name = e0.name ∧ e.T = e0.T ∧ e.A = e0.A := fun e he => by
    obtain ⟨e0, h0, rfl⟩ := mem_updE he
    refine ⟨e0, h0, ?_⟩
    split
    · exact ⟨g1 _, g2 _, g3 _⟩
    · exact ⟨rfl, rfl, rfl⟩
  refine ⟨h.d12, h.d13, h.d23, fun e he => ?_, fun e he => ?_, fun e he e' he' q => ?_, fun e he e' he' => ?_⟩
  · obtain ⟨e0, h0, _, q, _⟩ := same e he
    rw [q]; exact h.dT e0 h0
  · obtain ⟨e0, h0, _, _, q⟩ := same e he
    rw [q]; exact h.dA e0 h0
  · obtain ⟨e0, h0, n0, t0, a0⟩ := same e he
    obtain ⟨e1, h1, n1, t1, a1⟩ := same e' he'
    rw [t0, a0, t1, a1]
    exact h.tt e0 h0 e1 h1 (by rw [← n0, ← n1]; exact q)
  · obtain ⟨e0, h0, n0, t0, a0⟩ := same e he
    obtain ⟨e1, h1, n1, t1, a1⟩ := same e' he'
    rw [t0, a1]
    exact h.ta e0 h0 e1 h1
theorem nd_name : ∀ {S : List Ent}, (S.map (·.name)).Nodup → ∀ {a b : Ent}, a ∈ S → b ∈ S → a.name = b.name → a = b
  | [], _, _, _, h, _, _ => nomatch h
  | e :: S, hn, a, b, ha, hb, q => by
    rw [List.map_cons, List.nodup_cons] at hn
    rcases List.mem_cons.mp ha with h1 | h1 <;> rcases List.mem_cons.mp hb with h2 | h2
    · rw [h1, h2]
    · rw [h1] at q
      exact absurd (List.mem_map.mpr ⟨b, h2, q.symm⟩) hn.1
    · rw [h2] at q
      exact absurd (List.mem_map.mpr ⟨a, h1, q⟩) hn.1
    · exact nd_name hn.2 h1 h2 q
theorem TbX.setT (h : TbX C H t D1 D2 D3 S) {z n : Str} {v : V} {e : Ent} (he : ent S z = some e) (k1 : H' e.T = some (.dK (kvT (addT n v e)))) (k : ∀ b o, b ≠ e.T → H b = some o → H' b = some o) : TbX C H' t D1 D2 D3 (updE S z (addT n v)) := by
  obtain ⟨dt, ht⟩ := h.ob
  have hm := ent_mem he
  have hn : e.name = z := by have := List.find?_some he; simpa using this
  have d := h.ap.dT e hm
  have g1 : ∀ x, (addT n v x).name = x.name := fun _ => rfl
  refine ⟨⟨dt, k _ _ (fun q => ?_) ht⟩, ?_, ?_, ?_, fun x hx => ?_, h.ap.updE (fun _ => rfl) (fun _ => rfl) (fun _ => rfl), ?_⟩
  · rw [q, (h.h4 e hm).1] at ht; cases ht
  · rw [k _ _ (Ne.symm d.1) h.h1]; unfold dT; rw [map_updE (g := addT n v) fun _ => rfl]
  · rw [k _ _ (Ne.symm d.2.1) h.h2]; unfold dA; rw [map_updE (g := addT n v) fun _ => rfl]
  · rw [k _ _ (Ne.symm d.2.2) h.h3]; unfold dR; rw [map_updE (g := addT n v) fun _ => rfl]
  · obtain ⟨e0, h0, rfl⟩ := mem_updE hx
    by_cases q : e0.name = z
    · rw [if_pos q]
      have ee : e0 = e := by
        exact nd_name h.nn h0 hm (q.trans hn.symm)
      subst ee
      refine ⟨k1, k e0.A _ (Ne.symm (h.ap.ta _ hm _ hm)) (h.h4 _ hm).2⟩
    · rw [if_neg q]
      have q2 : e0.name ≠ e.name := by rw [hn]; exact q
      exact ⟨k _ _ (h.ap.tt _ h0 _ hm q2).1 (h.h4 _ h0).1, k _ _ (Ne.symm (h.ap.ta _ hm _ h0)) (h.h4 _ h0).2⟩
  · rw [map_updE (g := addT n v) fun _ => rfl]; exact h.nn
theorem TbX.setA (h : TbX C H t D1 D2 D3 S) {z n o : Str} {e : Ent} (he : ent S z = some e) (k1 : H' e.A = some (.dK (kvA (addA n o e)))) (k : ∀ b o, b ≠ e.A → H b = some o → H' b = some o) : TbX C H' t D1 D2 D3 (updE S z (addA n o)) := by
  obtain ⟨dt, ht⟩ := h.ob
  have hm := ent_mem he
  have hn : e.name = z := by have := List.find?_some he; simpa using this
  have d := h.ap.dA e hm
  refine ⟨⟨dt, k _ _ (fun q => ?_) ht⟩, ?_, ?_, ?_, fun x hx => ?_, h.ap.updE (fun _ => rfl) (fun _ => rfl) (fun _ => rfl), ?_⟩
  · rw [q, (h.h4 e hm).2] at ht; cases ht
  · rw [k _ _ (Ne.symm d.1) h.h1]; unfold dT; rw [map_updE (g := addA n o) fun _ => rfl]
  · rw [k _ _ (Ne.symm d.2.1) h.h2]; unfold dA; rw [map_updE (g := addA n o) fun _ => rfl]
  · rw [k _ _ (Ne.symm d.2.2) h.h3]; unfold dR; rw [map_updE (g := addA n o) fun _ => rfl]
  · obtain ⟨e0, h0, rfl⟩ := mem_updE hx
    by_cases q : e0.name = z
    · rw [if_pos q]
      have ee : e0 = e := by
        exact nd_name h.nn h0 hm (q.trans hn.symm)
      subst ee
      refine ⟨k e0.T _ (h.ap.ta _ hm _ hm) (h.h4 _ hm).1, k1⟩
    · rw [if_neg q]
      have q2 : e0.name ≠ e.name := by rw [hn]; exact q
      exact ⟨k _ _ (h.ap.ta _ h0 _ hm) (h.h4 _ h0).1, k _ _ (h.ap.tt _ h0 _ hm q2).2 (h.h4 _ h0).2⟩
  · rw [map_updE (g := addA n o) fun _ => rfl]; exact h.nn
end
def spAddL (K : PySem.W.Frag) : Sp := fun vs H Q E => ∃ (t : Addr) (x y : V) (d dr : PyData) (D1 D2 D3 : Addr) (S : List Ent), vs = [.ref t, x, y] ∧ TbX (He.ga K "Tables") H t D1 D2 D3 S ∧ Dq H x d ∧ okD d = true ∧ Dq H y dr ∧ okD dr = true ∧ S.length < 1000 ∧
  ((nameD d = false ∧ Rs E H (He.ga K "InvalidName") "given" x) ∨ ∃ z, d = .str z ∧ nameD d = true ∧
    ((inT S d = true ∧ Rs E H (He.ga K "NameTaken") "given" x) ∨ (inT S d = false ∧
      ((y ≠ .non ∧ inT S dr = false ∧ Rs E H (He.ga K "UnknownLoader") "given" y) ∨ ((y = .non ∨ inT S dr = true) ∧
        ((8 ≤ S.length ∧ Rs E H (He.ga K "LimitExceeded") "limit" (.int 8)) ∨ (S.length < 8 ∧ y = .non ∧
          ∀ (T A : Addr) (H' : Hp), H T = none → H A = none → TbX (He.ga K "Tables") H' t D1 D2 D3 (S ++ [⟨z, T, A, [], []⟩]) → (∀ b o, b ≠ D1 → b ≠ D2 → b ≠ D3 → H b = some o → H' b = some o) → Q .non H')))))))
section
variable {P : Program} {w : World} {K : PySem.W.Frag} {mg : Str → Option Value} {base : Heap} {f : Addr} {fd : FuncData}
abbrev sTables_add_loader : Stmt := inClass (top 41) 5
abbrev nTables_add_loader : List Str := ["self", "name", "rest"]
theorem scTables_add_loader : FnScope nTables_add_loader ["self", "name", "rest"] (defScope sTables_add_loader) := ⟨rfl, rfl, rfl, by decide +kernel, rfl, by decide +kernel, by decide +kernel⟩
theorem okTables_add_loader (F : FunD K "add_loader" "Tables.add_loader" (defArgs sTables_add_loader) (defBody sTables_add_loader) (defScope sTables_add_loader) [] [("rest", .non)] f fd) (D : TK P w K mg base) : FnOk P w K mg base (L2.CX P w) 4 f fd ["self", "name", "rest"] (spAddL K) := by
  have T := D.t
  obtain ⟨fdE_iN, GE_iN, bE_iN⟩ := D.iN.fn
  obtain ⟨fdE_le, GE_le, bE_le⟩ := D.le.fn
  obtain ⟨fdE_nt, GE_nt, bE_nt⟩ := D.nt.fn
  obtain ⟨fdm_check_loader, Fm_check_loader⟩ := D.f_check_loader
  have Gm_check_loader := okTables_check_loader (P := P) (w := w) (base := base) Fm_check_loader D
  have bm_check_loader : Binds K fdm_check_loader ["self", "name"] [] := FunD.bindsN Fm_check_loader fun _ _ _ _ _ _ us hl => match us, hl with | [_, _], _ => rfl
  obtain ⟨fis_name, fdis_name, gis_name, Fis_name⟩ := D.is_name
  have Gis_name := okis_name (P := P) (base := base) Fis_name D.d
  have bis_name : Binds K fdis_name ["value"] [] := Fis_name.bindsN fun _ _ _ _ _ _ us hl => match us, hl with | [_], _ => rfl
  refine F.ok scTables_add_loader (fun vs H Q E h => ?_) (fun cdv A outer s H vs Q E hr h => ?_)
  · obtain ⟨t, x, y, d, dr, D1, D2, D3, S, rfl, _⟩ := h
    rfl
  · obtain ⟨t, x, y, d, dr, D1, D2, D3, S, rfl, hT, hx, ho, hy, hor, hS, h⟩ := h
    refine ⟨_, (pss_cons (ps_if (pt_not (pt_val (pe_call Gis_name (hr.mono (by decide)) rfl gis_name Fis_name.kp bis_name .nil pass0 (pa_cons (pv 1) pa_nil))))
        (pss_one (ps_raise rfl (takes_of rfl rfl rfl rfl) (pmk_xk D.iN.g.t D.iN.g.at_ D.iN.g.ty GE_iN (hr.mono (by decide)) bE_iN rfl D.iN.hm (by decide) (pa_cons (pv 1) pa_nil))))
        pss_nil)
      (pss_cons (ps_if (pt_cmp (pc_din (hu1 hr) (pv 1) (pe_fld (pv 0) rfl)))
        (pss_one (ps_raise rfl (takes_of rfl rfl rfl rfl) (pmk_xk D.nt.g.t D.nt.g.at_ D.nt.g.ty GE_nt (hr.mono (by decide)) bE_nt rfl D.nt.hm (by decide) (pa_cons (pv 1) pa_nil))))
        pss_nil)
      (pss_cons (ps_if (pt_cmpR op_notN (pv 2) pe_non (nomark _))
        (pss_one (ps_expr (pe_meth (pv 0) D.c.cl D.m_check_loader (Gm_check_loader.imp spCkT_X) (hr.mono (by decide)) bm_check_loader .nil (passes_call (takes_of rfl rfl rfl rfl) fun _ _ _ _ h => h) (pa_cons (pv 2) pa_nil))))
        pss_nil)
      (pss_cons (ps_if (pt_cmpR op_ge (pe_callB call_lenD rfl T.len boot_len (pa_cons (pe_fld (pv 0) rfl) pa_nil)) (ClX.pe_cval (pe_glob rfl D.hT (v := .ref (He.ga K "Tables")) rfl)) (nomark _))
        (pss_one (ps_raise rfl (takes_of rfl rfl rfl rfl) (pmk_xk D.le.g.t D.le.g.at_ D.le.g.ty GE_le (hr.mono (by decide)) bE_le rfl D.le.hm (by decide) (pa_cons (ClX.pe_cval (pe_glob rfl D.hT (v := .ref (He.ga K "Tables")) rfl)) pa_nil))))
        pss_nil)
      (pss_one (ps_asg (pe_tup (pa_cons pe_dnewK (pa_cons pe_dnewK (pa_cons (pv 2) pa_nil)))) (pg_tup rfl (pgs_cons (pg_sub (pe_fld (pv 0) rfl) (pv 1) (set_dict (hu1 hr))) (pgs_cons (pg_sub (pe_fld (pv 0) rfl) (pv 1) (set_dict (hu1 hr))) (pgs_cons (pg_sub (pe_fld (pv 0) rfl) (pv 1) (set_dict (hu1 hr))) pgs_nil)))) (hw := no_swapS3 rfl))))))), ?_⟩
    obtain ⟨u8, c8⟩ := D.c8
    obtain ⟨dt, ht⟩ := hT.ob
    refine ⟨_, rfl, x, d, rfl, hx, ho, fun H1 e1 => ⟨_, rfl, ?_⟩⟩
    rcases h with ⟨e, hE⟩ | ⟨z, rfl, e, h⟩
    · rw [e]
      exact ifT rfl ⟨_, rfl, rfl, fun dE HE eE hE' => hE dE HE (e1.trans eE) hE'⟩
    rw [e]
    cases hx
    refine ifF rfl ⟨_, rfl, _, rfl, t, _, dt, _, _, rfl, e1 _ _ ht, D.c.cl, D.c.n1, rfl, D1, _, rfl, DGet.k (k := .inr z) (e1 _ _ hT.h1), _, rfl, ?_⟩
    rw [show (valV (dT S) (.inr z)).isSome = inT S (.str z) from strKey_dT S (.str z)]
    rcases h with ⟨e2, hE⟩ | ⟨e2, h⟩
    · rw [e2]
      exact ifT rfl ⟨_, rfl, rfl, fun dE HE eE hE' => hE dE HE (e1.trans eE) hE'⟩
    rw [e2]
    refine ifF rfl ?_
    have hT1 := hT.ext e1
    have hy1 := hy.ext e1
    have ht1 := e1 _ _ ht
    rcases h with ⟨hy0, e3, hE⟩ | ⟨hyr, h⟩
    · refine ⟨_, rfl, rfl, _, rfl, ifT (by simp [hy0]) ?_⟩
      exact ⟨_, rfl, t, dt, _, rfl, ht1, rfl, _, rfl, t, y, dr, S, rfl, hT1.at_, hy1, hor, .inr ⟨e3, hE.ext e1⟩⟩
    have nz := ent_none e2
    have hv0 : ent S z = none := Option.not_isSome_iff_eq_none.mp (by rw [show (ent S z).isSome = inT S (.str z) from rfl, e2]; exact Bool.false_ne_true)
    rcases hyr with rfl | hin
    · refine ⟨_, rfl, rfl, _, rfl, ifF rfl ?_⟩
      refine ⟨_, rfl, t, _, dt, _, _, rfl, ht1, D.c.cl, D.c.n1, rfl, _, _, rfl, hT1.h1, _, _, _, _, rfl, D.cR, c8, _, _, rfl, rfl, _, rfl, ?_⟩
      rw [show (dT S).length = S.length from List.length_map _]
      rcases h with ⟨h8, hE⟩ | ⟨h8, _, hQ⟩
      · exact ifT (decide_eq_true (by omega)) ⟨_, _, _, _, rfl, D.cR, c8, rfl, fun dE HE eE hE' => hE dE HE (e1.trans eE) hE'⟩
      refine ifF (decide_eq_false (by omega)) ?_
      intro Ta hTa Aa hAa
      have eT := Evl.Ex.new (o := .dK []) hTa
      have eA := Evl.Ex.new (o := .dK []) hAa
      refine ⟨_, rfl, le_line (by simp), fun q hq => ?_⟩
      have eq := Evl.Ex.new (o := .tup [.ref Ta, .ref Aa, .non]) hq
      have e3 := (eT.trans eA).trans eq
      have kT := eq _ _ (eA _ _ (upd_same (H := H1) (a := Ta) (o := .dK [])))
      have kA := eq _ _ (upd_same (H := upd H1 Ta (.dK [])) (a := Aa) (o := .dK []))
      have nAT : Aa ≠ Ta := by rintro rfl; rw [upd_same] at hAa; cases hAa
      have hA1 : H1 Aa = none := by rw [upd_ne nAT] at hAa; exact hAa
      refine ⟨q, _, rfl, SqT.of upd_same, rfl, ?_⟩
      generalize upd (upd (upd H1 Ta (.dK [])) Aa (.dK [])) q (.tup [.ref Ta, .ref Aa, .non]) = H2 at e3 kT kA
      clear eT eA eq
      have hT2 := hT1.ext e3
      have ne : ∀ {a b : Addr} {o : HO}, H1 a = none → H1 b = some o → b ≠ a := fun ha hb q => by rw [q, ha] at hb; cases hb
      have t1 : t ≠ D1 := by rintro rfl; rw [hT1.h1] at ht1; cases ht1
      have t2 : t ≠ D2 := by rintro rfl; rw [hT1.h2] at ht1; cases ht1
      have t3 : t ≠ D3 := by rintro rfl; rw [hT1.h3] at ht1; cases ht1
      have hl : S.length < sizeLine := by rw [sizeLine_eq]; omega
      refine ⟨_, _, rfl, _, rfl, t, _, dt, _, _, rfl, e3 _ _ ht1, D.c.cl, D.c.n1, rfl, _, rfl, D1, _, rfl, DPut.k (k := .inr z) hT2.h1 (by rw [show (dT S).length = S.length from List.length_map _]; exact hl), ?_⟩
      rw [putK_new (.ref Ta) (show valV (dT S) (.inr z) = none from by rw [val_dT, hv0]; rfl)]
      refine ⟨_, _, rfl, _, rfl, t, _, dt, _, _, rfl, (upd_ne t1).trans (e3 _ _ ht1), D.c.cl, D.c.n2, rfl, _, rfl, D2, _, rfl, DPut.k (k := .inr z) ((upd_ne (Ne.symm hT.ap.d12)).trans hT2.h2) (by rw [show (dA S).length = S.length from List.length_map _]; exact hl), ?_⟩
      rw [putK_new (.ref Aa) (show valV (dA S) (.inr z) = none from by rw [val_dA, hv0]; rfl)]
      refine ⟨_, _, rfl, _, rfl, t, _, dt, _, _, rfl, (upd_ne t2).trans ((upd_ne t1).trans (e3 _ _ ht1)), D.c.cl, D.c.n3, rfl, _, rfl, D3, _, rfl, DPut.k (k := .inr z) ((upd_ne (Ne.symm hT.ap.d23)).trans ((upd_ne (Ne.symm hT.ap.d13)).trans hT2.h3)) (by rw [show (dR S).length = S.length from List.length_map _]; exact hl), rfl, ?_⟩
      rw [putK_new .non (show valV (dR S) (.inr z) = none from by rw [val_dR, hv0]; rfl)]
      have kk : ∀ b o, b ≠ D1 → b ≠ D2 → b ≠ D3 → H1 b = some o → upd (upd (upd H2 D1 (.dK (dT S ++ [(.inr z, .ref Ta)]))) D2 (.dK (dA S ++ [(.inr z, .ref Aa)]))) D3 (.dK (dR S ++ [(.inr z, .non)])) b = some o := fun b o b1 b2 b3 hb => by
        rw [upd_ne b3, upd_ne b2, upd_ne b1]; exact e3 _ _ hb
      have n1 := ne hTa hT1.h1
      have n2 := ne hTa hT1.h2
      have n3 := ne hTa hT1.h3
      have m1 := ne hA1 hT1.h1
      have m2 := ne hA1 hT1.h2
      have m3 := ne hA1 hT1.h3
      refine hQ Ta Aa _ (ex_noH e1 hTa) (ex_noH e1 hA1) (hT1.push (ts := []) (as := []) e2 hTa hA1 (Ne.symm nAT) ?_ ?_ ?_ ?_ ?_ kk) (fun b o b1 b2 b3 hb => kk b o b1 b2 b3 (e1 _ _ hb))
      · rw [upd_ne (Ne.symm n3), upd_ne (Ne.symm n2), upd_ne (Ne.symm n1)]; exact kT
      · rw [upd_ne (Ne.symm m3), upd_ne (Ne.symm m2), upd_ne (Ne.symm m1)]; exact kA
      · rw [upd_ne hT.ap.d13, upd_ne hT.ap.d12, upd_same]
      · rw [upd_ne hT.ap.d23, upd_same]
      · rw [upd_same]
    · obtain ⟨o, rfl⟩ : ∃ o, dr = .str o := by cases dr <;> first | exact ⟨_, rfl⟩ | cases hin
      cases hy
      refine ⟨_, rfl, rfl, _, rfl, ifT rfl ?_⟩
      refine ⟨_, rfl, t, dt, _, rfl, ht1, rfl, _, rfl, t, .str o, .str o, S, rfl, hT1.at_, .str o, hor, .inl ⟨hin, ?_⟩⟩
      rcases h with ⟨h8, hE⟩ | ⟨h8, q, hQ⟩
      · refine ⟨_, rfl, t, _, dt, _, _, rfl, ht1, D.c.cl, D.c.n1, rfl, _, _, rfl, hT1.h1, _, _, _, _, rfl, D.cR, c8, _, _, rfl, rfl, _, rfl, ?_⟩
        rw [show (dT S).length = S.length from List.length_map _]
        exact ifT (decide_eq_true (by omega)) ⟨_, _, _, _, rfl, D.cR, c8, rfl, fun dE HE eE hE' => hE dE HE (e1.trans eE) hE'⟩
      · cases q
end
end K06

set_option Elab.async false
set_option linter.all false
set_option maxRecDepth 100000
set_option maxHeartbeats 0
/-! add_class, ask -/
namespace K06
open PySem PySem.Spec PyProof.Rows L2 EX2 TX
def spAddC (K : PySem.W.Frag) : Sp := fun vs H Q E => ∃ (t : Addr) (x y : V) (d : PyData) (D1 D2 D3 : Addr) (S : List Ent), vs = [.ref t, x, y] ∧ TbX (He.ga K "Tables") H t D1 D2 D3 S ∧ Dq H x d ∧ okD d = true ∧
  ((inT S d = false ∧ Rs E H (He.ga K "UnknownLoader") "given" x) ∨ ∃ z e, d = .str z ∧ ent S z = some e ∧
    ((∃ dy, Dq H y dy ∧ PySem.W.kitOne K (.type (tyD dy)) (.ref (He.ga K "ClassText")) = some false ∧ Rs E H (He.ga K "InvalidClass") "given" y) ∨ ∃ c dc n mk fl me, y = .ref c ∧ H c = some (.ins (He.ga K "ClassText") dc (zfields n mk fl me)) ∧
      (((hasT e n || hasA e n) = true ∧ Rs E H (He.ga K "NameTaken") "given" (.str n)) ∨ ((hasT e n || hasA e n) = false ∧
        ((40 ≤ e.ts.length ∧ Rs E H (He.ga K "LimitExceeded") "limit" (.int 40)) ∨ (e.ts.length < 40 ∧
          ∀ H' : Hp, TbX (He.ga K "Tables") H' t D1 D2 D3 (updE S z (addT n y)) → (∀ b o, b ≠ e.T → H b = some o → H' b = some o) → Q .non H'))))))
theorem kvT_addT (n : Str) (v : V) (e : Ent) : kvT (addT n v e) = kvT e ++ [(.inr n, v)] := by
  unfold kvT addT
  rw [List.map_append]
  rfl
theorem kvA_addA (n o : Str) (e : Ent) : kvA (addA n o e) = kvA e ++ [(.inr n, .str o)] := by
  unfold kvA addA
  rw [List.map_append]
  rfl
theorem ent_name {S : List Ent} {z : Str} {e : Ent} (h : ent S z = some e) : e.name = z := by
  have := List.find?_some h
  simpa using this
section
variable {P : Program} {w : World} {K : PySem.W.Frag} {mg : Str → Option Value} {base : Heap} {f : Addr} {fd : FuncData}
abbrev sTables_add_class : Stmt := inClass (top 41) 7
abbrev nTables_add_class : List Str := ["self", "loader", "text"]
theorem scTables_add_class : FnScope nTables_add_class ["self", "loader", "text"] (defScope sTables_add_class) := ⟨rfl, rfl, rfl, by decide +kernel, rfl, by decide +kernel, by decide +kernel⟩
theorem okTables_add_class (F : FunD K "add_class" "Tables.add_class" (defArgs sTables_add_class) (defBody sTables_add_class) (defScope sTables_add_class) [] [] f fd) (D : TK P w K mg base) : FnOk P w K mg base (L2.CX P w) 4 f fd ["self", "loader", "text"] (spAddC K) := by
  have T := D.t
  obtain ⟨pN, fdN, GN, bN⟩ := D.nameC
  obtain ⟨fdE_ic, GE_ic, bE_ic⟩ := D.ic.fn
  obtain ⟨fdE_le, GE_le, bE_le⟩ := D.le.fn
  obtain ⟨fdm_check_loader, Fm_check_loader⟩ := D.f_check_loader
  have Gm_check_loader := okTables_check_loader (P := P) (w := w) (base := base) Fm_check_loader D
  have bm_check_loader : Binds K fdm_check_loader ["self", "name"] [] := FunD.bindsN Fm_check_loader fun _ _ _ _ _ _ us hl => match us, hl with | [_, _], _ => rfl
  obtain ⟨fdm_check_free, Fm_check_free⟩ := D.f_check_free
  have Gm_check_free := okTables_check_free (P := P) (w := w) (base := base) Fm_check_free D
  have bm_check_free : Binds K fdm_check_free ["self", "loader", "name"] [] := FunD.bindsN Fm_check_free fun _ _ _ _ _ _ us hl => match us, hl with | [_, _, _], _ => rfl
  refine F.ok scTables_add_class (fun vs H Q E h => ?_) (fun cdv A outer s H vs Q E hr h => ?_)
  · obtain ⟨t, x, y, d, D1, D2, D3, S, rfl, _⟩ := h
    rfl
  · obtain ⟨t, x, y, d, D1, D2, D3, S, rfl, hT, hx, ho, h⟩ := h
    refine ⟨_, (pss_cons (ps_expr (pe_meth (pv 0) D.c.cl D.m_check_loader (Gm_check_loader.imp spCkT_X) (hr.mono (by decide)) bm_check_loader .nil (passes_call (takes_of rfl rfl rfl rfl) fun _ _ _ _ h => h) (pa_cons (pv 1) pa_nil)))
      (pss_cons (ps_if (pt_not (pt_val (pe_callB call_isi rfl T.isi boot_isi (pa_cons (pv 2) (pa_cons (pe_glob rfl D.hC (v := .ref (He.ga K "ClassText")) rfl) pa_nil)))))
        (pss_one (ps_raise rfl (takes_of rfl rfl rfl rfl) (pmk_xk D.ic.g.t D.ic.g.at_ D.ic.g.ty GE_ic (hr.mono (by decide)) bE_ic rfl D.ic.hm (by decide) (pa_cons (pv 2) pa_nil))))
        pss_nil)
      (pss_cons (ps_expr (pe_meth (pv 0) D.c.cl D.m_check_free Gm_check_free (hr.mono (by decide)) bm_check_free .nil (passes_call (takes_of rfl rfl rfl rfl) fun _ _ _ _ h => h) (pa_cons (pv 1) (pa_cons (pe_prop (pv 2) D.ct.cl pN GN (hr.mono (by decide)) bN .nil pass0 (by rfl)) pa_nil))))
      (pss_cons (ps_if (pt_cmpR op_ge (pe_callB call_lenD rfl T.len boot_len (pa_cons (pe_dget (hu1 hr) (pe_fld (pv 0) rfl) (pv 1) (fun _ _ => rfl)) pa_nil)) (ClX.pe_cval (pe_glob rfl D.hT (v := .ref (He.ga K "Tables")) rfl)) (nomark _))
        (pss_one (ps_raise rfl (takes_of rfl rfl rfl rfl) (pmk_xk D.le.g.t D.le.g.at_ D.le.g.ty GE_le (hr.mono (by decide)) bE_le rfl D.le.hm (by decide) (pa_cons (ClX.pe_cval (pe_glob rfl D.hT (v := .ref (He.ga K "Tables")) rfl)) pa_nil))))
        pss_nil)
      (pss_one (ps_asg (pv 2) (pg_sub (pe_dget (hu1 hr) (pe_fld (pv 0) rfl) (pv 1) (fun _ _ => rfl)) (pe_prop (pv 2) D.ct.cl pN GN (hr.mono (by decide)) bN .nil pass0 (by rfl)) (set_dict (hu1 hr))))))))), ?_⟩
    obtain ⟨u40, c40⟩ := D.c40
    obtain ⟨dt, ht⟩ := hT.ob
    refine ⟨_, rfl, t, dt, _, rfl, ht, rfl, _, rfl, t, x, d, S, rfl, hT.at_, hx, ho, ?_⟩
    rcases h with ⟨e, hE⟩ | ⟨z, en, rfl, hen, h⟩
    · exact .inr ⟨e, hE⟩
    refine .inl ⟨inT_ent hen, ?_⟩
    cases hx
    rcases h with ⟨dy, hy, hk, hE⟩ | ⟨c, dc, n, mk, fl, me, rfl, hc, h⟩
    · exact ⟨_, rfl, _, _, _, _, _, rfl, .own _, ty_of hy, hk, _, rfl, ifT rfl ⟨_, rfl, rfl, fun dE HE eE hE' => hE dE HE eE hE'⟩⟩
    refine ⟨_, rfl, _, _, _, _, _, rfl, .own _, .base (.ins hc D.ct.cl D.insC.ha D.insC.hn D.insC.ht D.insC.hm), D.insC.kc, _, rfl, ifF rfl ?_⟩
    have hm := ent_mem hen
    have gD : DGet H D1 (.str z) (some (.ref en.T)) := by have g := DGet.k (k := .inr z) hT.h1; rw [val_dT, hen] at g; exact g
    refine ⟨_, rfl, t, dt, _, rfl, ht, rfl, _, rfl, _, rfl, c, dc, _, rfl, hc, c, dc, _, .str n, rfl, hc, rfl, t, z, n, S, en, rfl, hT.at_, hen, ?_⟩
    rcases h with ⟨q, hE⟩ | ⟨q, h⟩
    · exact .inr ⟨q, hE⟩
    refine .inl ⟨q, ?_⟩
    refine ⟨_, rfl, t, _, dt, _, _, rfl, ht, D.c.cl, D.c.n1, rfl, _, rfl, D1, _, rfl, gD, _, _, rfl, (hT.h4 en hm).1, _, _, _, _, rfl, D.cR, c40, _, _, rfl, rfl, _, rfl, ?_⟩
    rw [show (kvT en).length = en.ts.length from List.length_map _]
    rcases h with ⟨h8, hE⟩ | ⟨h8, hQ⟩
    · exact ifT (decide_eq_true (by omega)) ⟨_, _, _, _, rfl, D.cR, c40, rfl, fun dE HE eE hE' => hE dE HE eE hE'⟩
    refine ifF (decide_eq_false (by omega)) ?_
    rw [Bool.or_eq_false_iff] at q
    have hv : valV (kvT en) (.inr n) = none := by
      have := valT en n
      rw [q.1] at this
      exact Option.not_isSome_iff_eq_none.mp (by rw [this]; exact Bool.false_ne_true)
    refine ⟨_, rfl, _, rfl, t, _, dt, _, _, rfl, ht, D.c.cl, D.c.n1, rfl, _, rfl, D1, _, rfl, gD, _, rfl, c, dc, _, rfl, hc, c, dc, _, .str n, rfl, hc, rfl, en.T, _, rfl, DPut.k (k := .inr n) (hT.h4 en hm).1 (by rw [show (kvT en).length = en.ts.length from List.length_map _, sizeLine_eq]; omega), ?_⟩
    refine hQ _ (hT.setT hen ?_ fun b o hb e => (upd_ne hb).trans e) fun b o hb e => (upd_ne hb).trans e
    rw [upd_same, kvT_addT, putK_new _ hv]
/-- z is the i-th name and not one before -/
def Idx (S : List Ent) (z : Str) (i : Nat) : Prop := (S.map (·.name))[i]? = some z
theorem Idx.not {S : List Ent} {z : Str} {i : Nat} (h : Idx S z i) (hn : (S.map (·.name)).Nodup) {m : Nat} {y : Str} (hm : m < i) (hy : (S.map (·.name))[m]? = some y) : y ≠ z := by
  rintro rfl
  obtain ⟨l1, e1⟩ := List.getElem?_eq_some_iff.mp hy
  obtain ⟨l2, e2⟩ := List.getElem?_eq_some_iff.mp h
  exact (List.pairwise_iff_getElem.mp hn) m i l1 l2 hm (e1.trans e2.symm)
theorem ent_idx {S : List Ent} {z : Str} {i : Nat} (h : Idx S z i) : ∃ e, ent S z = some e := by
  have hz : z ∈ S.map (·.name) := List.mem_of_getElem? h
  obtain ⟨e, he, rfl⟩ := List.mem_map.mp hz
  cases q : ent S e.name with
  | some e => exact ⟨e, rfl⟩
  | none =>
    have := List.find?_eq_none.mp q e he
    simp at this
theorem keys_dT (S : List Ent) : (dT S).map (fun kv => kV kv.1) = (S.map (·.name)).map V.str := by
  unfold dT
  rw [List.map_map, List.map_map]
  rfl
theorem idx_rule {K : PySem.W.Frag} {H : Hp} {L : Addr} {S : List Ent} (hL : H L = some (.lst ((S.map (·.name)).map V.str))) (hn : (S.map (·.name)).Nodup) {z : Str} {i : Nat} (h : Idx S z i) {Q : VK} (q : Q (.int (i : Nat)) H) :
    rIndex K (.ref L) [.str z] H Q := by
  refine ⟨L, _, .str z, i, .str z, rfl, rfl, SqL.of hL, rfl, ?_, ?_, by simp [eqV], fun m z' hm hz' => ?_, q⟩
  · rw [List.all_eq_true]
    intro v hv
    obtain ⟨y, _, rfl⟩ := List.mem_map.mp hv
    rfl
  · rw [List.getElem?_map, show (S.map (·.name))[i]? = some z from h]
    rfl
  · rw [List.getElem?_map] at hz'
    cases hy : (S.map (·.name))[m]? with
    | none => rw [hy] at hz'; cases hz'
    | some y =>
      rw [hy] at hz'
      cases hz'
      have := h.not hn hm hy
      simpa [eqV] using this
def spAsk (K : PySem.W.Frag) : Sp := fun vs H Q E => ∃ (t : Addr) (x y v : V) (d dn dv : PyData) (D1 D2 D3 : Addr) (S : List Ent), vs = [.ref t, x, y, v] ∧ TbX (He.ga K "Tables") H t D1 D2 D3 S ∧ Dq H x d ∧ okD d = true ∧
  ((inT S d = false ∧ Rs E H (He.ga K "UnknownLoader") "given" x) ∨ (inT S d = true ∧ Dq H y dn ∧ okD dn = true ∧
    ((cnD dn = false ∧ Rs E H (He.ga K "InvalidName") "given" y) ∨ (cnD dn = true ∧ Dq H v dv ∧ okD dv = true ∧
      ((inT S dv = false ∧ Rs E H (He.ga K "UnknownLoader") "given" v) ∨ ∃ z n o i j e, d = .str z ∧ dn = .str n ∧ dv = .str o ∧ Idx S z i ∧ Idx S o j ∧ ent S z = some e ∧
        ((i ≤ j ∧ Rs E H (He.ga K "UnknownLoader") "given" v) ∨ (j < i ∧
          (((hasT e n || hasA e n) = true ∧ Rs E H (He.ga K "NameTaken") "given" y) ∨ ((hasT e n || hasA e n) = false ∧ e.as.length < 1000 ∧
            ∀ H' : Hp, TbX (He.ga K "Tables") H' t D1 D2 D3 (updE S z (addA n o)) → (∀ b o, b ≠ e.A → H b = some o → H' b = some o) → Q .non H')))))))))
abbrev sTables_ask : Stmt := inClass (top 41) 8
abbrev nTables_ask : List Str := ["self", "loader", "name", "other", "names"]
theorem scTables_ask : FnScope nTables_ask ["self", "loader", "name", "other"] (defScope sTables_ask) := ⟨rfl, rfl, rfl, by decide +kernel, rfl, by decide +kernel, by decide +kernel⟩
theorem okTables_ask (F : FunD K "ask" "Tables.ask" (defArgs sTables_ask) (defBody sTables_ask) (defScope sTables_ask) [] [] f fd) (D : TK P w K mg base) : FnOk P w K mg base (L2.CX P w) 4 f fd ["self", "loader", "name", "other"] (spAsk K) := by
  have T := D.t
  obtain ⟨fdE_iN, GE_iN, bE_iN⟩ := D.iN.fn
  obtain ⟨fdE_un, GE_un, bE_un⟩ := D.un.fn
  obtain ⟨fdm_check_loader, Fm_check_loader⟩ := D.f_check_loader
  have Gm_check_loader := okTables_check_loader (P := P) (w := w) (base := base) Fm_check_loader D
  have bm_check_loader : Binds K fdm_check_loader ["self", "name"] [] := FunD.bindsN Fm_check_loader fun _ _ _ _ _ _ us hl => match us, hl with | [_, _], _ => rfl
  obtain ⟨fdm_check_free, Fm_check_free⟩ := D.f_check_free
  have Gm_check_free := okTables_check_free (P := P) (w := w) (base := base) Fm_check_free D
  have bm_check_free : Binds K fdm_check_free ["self", "loader", "name"] [] := FunD.bindsN Fm_check_free fun _ _ _ _ _ _ us hl => match us, hl with | [_, _, _], _ => rfl
  obtain ⟨fis_class_name, fdis_class_name, gis_class_name, Fis_class_name⟩ := D.is_class_name
  have Gis_class_name := okis_class_name (P := P) (base := base) Fis_class_name D.d
  have bis_class_name : Binds K fdis_class_name ["value"] [] := Fis_class_name.bindsN fun _ _ _ _ _ _ us hl => match us, hl with | [_], _ => rfl
  refine F.ok scTables_ask (fun vs H Q E h => ?_) (fun cdv A outer s H vs Q E hr h => ?_)
  · obtain ⟨t, x, y, v, d, dn, dv, D1, D2, D3, S, rfl, _⟩ := h
    rfl
  · obtain ⟨t, x, y, v, d, dn, dv, D1, D2, D3, S, rfl, hT, hx, ho, h⟩ := h
    refine ⟨_, (pss_cons (ps_expr (pe_meth (pv 0) D.c.cl D.m_check_loader (Gm_check_loader.imp spCkT_X) (hr.mono (by decide)) bm_check_loader .nil (passes_call (takes_of rfl rfl rfl rfl) fun _ _ _ _ h => h) (pa_cons (pv 1) pa_nil)))
      (pss_cons (ps_if (pt_not (pt_val (pe_call Gis_class_name (hr.mono (by decide)) rfl gis_class_name Fis_class_name.kp bis_class_name .nil pass0 (pa_cons (pv 2) pa_nil))))
        (pss_one (ps_raise rfl (takes_of rfl rfl rfl rfl) (pmk_xk D.iN.g.t D.iN.g.at_ D.iN.g.ty GE_iN (hr.mono (by decide)) bE_iN rfl D.iN.hm (by decide) (pa_cons (pv 2) pa_nil))))
        pss_nil)
      (pss_cons (ps_expr (pe_meth (pv 0) D.c.cl D.m_check_loader (Gm_check_loader.imp spCkT_X) (hr.mono (by decide)) bm_check_loader .nil (passes_call (takes_of rfl rfl rfl rfl) fun _ _ _ _ h => h) (pa_cons (pv 3) pa_nil)))
      (pss_cons (ps_set (i := 4) scTables_ask.nd rfl (Or.inl rfl) (pe_callTy (call_listD rfl) rfl T.lst boot_list (pa_cons (pe_fld (pv 0) rfl) pa_nil)))
      (pss_cons (ps_if (pt_cmpR op_ge (pe_bm PySem.F.plainAttrs_list PySem.F.slot_list_index PySem.F.type_list_index mt_index (pv 4) (pa_cons (pv 3) pa_nil)) (pe_bm PySem.F.plainAttrs_list PySem.F.slot_list_index PySem.F.type_list_index mt_index (pv 4) (pa_cons (pv 1) pa_nil)) (nomark _))
        (pss_one (ps_raise rfl (takes_of rfl rfl rfl rfl) (pmk_xk D.un.g.t D.un.g.at_ D.un.g.ty GE_un (hr.mono (by decide)) bE_un rfl D.un.hm (by decide) (pa_cons (pv 3) pa_nil))))
        pss_nil)
      (pss_cons (ps_expr (pe_meth (pv 0) D.c.cl D.m_check_free Gm_check_free (hr.mono (by decide)) bm_check_free .nil (passes_call (takes_of rfl rfl rfl rfl) fun _ _ _ _ h => h) (pa_cons (pv 1) (pa_cons (pv 2) pa_nil))))
      (pss_one (ps_asg (pv 3) (pg_sub (pe_dget (hu1 hr) (pe_fld (pv 0) rfl) (pv 1) (fun _ _ => rfl)) (pv 2) (set_dict (hu1 hr))))))))))), ?_⟩
    obtain ⟨dt, ht⟩ := hT.ob
    refine ⟨_, rfl, t, dt, _, rfl, ht, rfl, _, rfl, t, x, d, S, rfl, hT.at_, hx, ho, ?_⟩
    rcases h with ⟨e, hE⟩ | ⟨e, hy, hyo, h⟩
    · exact .inr ⟨e, hE⟩
    refine .inl ⟨e, ?_⟩
    refine ⟨_, rfl, y, dn, rfl, hy, hyo, fun H1 e1 => ⟨_, rfl, ?_⟩⟩
    rcases h with ⟨e2, hE⟩ | ⟨e2, hv, hvo, h⟩
    · rw [e2]
      exact ifT rfl ⟨_, rfl, rfl, fun dE HE eE hE' => hE dE HE (e1.trans eE) hE'⟩
    rw [e2]
    refine ifF rfl ?_
    have hT1 := hT.ext e1
    have ht1 := e1 _ _ ht
    refine ⟨_, rfl, t, dt, _, rfl, ht1, rfl, _, rfl, t, v, dv, S, rfl, hT1.at_, hv.ext e1, hvo, ?_⟩
    rcases h with ⟨e3, hE⟩ | ⟨z, n, o, i, j, en, rfl, rfl, rfl, hi, hj, hen, h⟩
    · exact .inr ⟨e3, hE.ext e1⟩
    obtain ⟨eo, heo⟩ := ent_idx hj
    refine .inl ⟨inT_ent heo, ?_⟩
    cases hx
    cases hy
    cases hv
    refine ⟨_, rfl, t, _, dt, _, _, rfl, ht1, D.c.cl, D.c.n1, rfl, _, _, rfl, .inl hT1.h1, fun L hL => ?_⟩
    have eL := Evl.Ex.new (o := .lst ((dT S).map fun kv => kV kv.1)) hL
    have hLL := upd_same (H := H1) (a := L) (o := .lst ((dT S).map fun kv => kV kv.1))
    generalize upd H1 L (.lst ((dT S).map fun kv => kV kv.1)) = H2 at eL hLL
    rw [keys_dT] at hLL
    have hT2 := hT1.ext eL
    have ht2 := eL _ _ ht1
    refine ⟨_, rfl, .inl ⟨rfl, _, SqL.of hLL⟩, _, rfl, ?_⟩
    dsimp only [tNil, tCons, tVar]
    refine idx_rule hLL hT.nn hj ?_
    refine ⟨_, rfl, .inl ⟨rfl, _, SqL.of hLL⟩, _, rfl, ?_⟩
    dsimp only [tNil, tCons, tVar]
    refine idx_rule hLL hT.nn hi ?_
    refine ⟨_, _, rfl, rfl, _, rfl, ?_⟩
    rcases h with ⟨hij, hE⟩ | ⟨hij, h⟩
    · exact ifT (decide_eq_true (by omega)) ⟨_, rfl, rfl, fun dE HE eE hE' => hE dE HE ((e1.trans eL).trans eE) hE'⟩
    refine ifF (decide_eq_false (by omega)) ?_
    refine ⟨_, rfl, t, dt, _, rfl, ht2, rfl, _, rfl, _, rfl, t, z, n, S, en, rfl, hT2.at_, hen, ?_⟩
    rcases h with ⟨q, hE⟩ | ⟨q, hl, hQ⟩
    · exact .inr ⟨q, hE.ext (e1.trans eL)⟩
    refine .inl ⟨q, ?_⟩
    rw [Bool.or_eq_false_iff] at q
    have hm := ent_mem hen
    have gD : DGet H2 D2 (.str z) (some (.ref en.A)) := by have g := DGet.k (k := .inr z) hT2.h2; rw [val_dA, hen] at g; exact g
    have hv : valV (kvA en) (.inr n) = none := by
      have := valA en n
      rw [q.2] at this
      exact Option.not_isSome_iff_eq_none.mp (by rw [this]; exact Bool.false_ne_true)
    refine ⟨_, rfl, _, rfl, t, _, dt, _, _, rfl, ht2, D.c.cl, D.c.n2, rfl, _, rfl, D2, _, rfl, gD, _, rfl, en.A, _, rfl, DPut.k (k := .inr n) (hT2.h4 en hm).2 (by rw [show (kvA en).length = en.as.length from List.length_map _, sizeLine_eq]; omega), ?_⟩
    refine hQ _ (hT2.setA hen ?_ fun b o hb e => (upd_ne hb).trans e) fun b o hb e => (upd_ne hb).trans (eL _ _ (e1 _ _ e))
    rw [upd_same, kvA_addA, putK_new _ hv]
end
end K06

set_option Elab.async false
set_option linter.all false
set_option maxRecDepth 100000
set_option maxHeartbeats 0
/-! without, copy -/
namespace K06
open PySem PySem.Spec PyProof.Rows L2 EX2 TX
def shp (e : Ent) : Str × List (Str × V) × List (Str × Str) := (e.name, e.ts, e.as)
structure Fresh (H : Hp) (t D1 D2 D3 : Addr) (S : List Ent) : Prop where
  t : H t = none
  d1 : H D1 = none
  d2 : H D2 = none
  d3 : H D3 = none
  es : ∀ e ∈ S, H e.T = none ∧ H e.A = none
theorem Fresh.back {H H' : Hp} {t D1 D2 D3 : Addr} {S : List Ent} (h : Fresh H' t D1 D2 D3 S) (e : Evl.Ex H H') : Fresh H t D1 D2 D3 S :=
  ⟨ex_noH e h.t, ex_noH e h.d1, ex_noH e h.d2, ex_noH e h.d3, fun x hx => ⟨ex_noH e (h.es x hx).1, ex_noH e (h.es x hx).2⟩⟩
def spWithout (K : PySem.W.Frag) : Sp := fun vs H Q _ => ∃ (t nm D1 D2 D3 : Addr) (S : List Ent), vs = [.ref t, .ref nm] ∧ TbX (He.ga K "Tables") H t D1 D2 D3 S ∧ H nm = some (.lst []) ∧ S.length < 1000 ∧
  ∀ (t' E1 E2 E3 : Addr) (S' : List Ent) (H' : Hp), Evl.Ex H H' → Fresh H t' E1 E2 E3 S' → TbX (He.ga K "Tables") H' t' E1 E2 E3 S' → S'.map shp = S.map shp → Q (.ref t') H'
def spCopy (K : PySem.W.Frag) : Sp := fun vs H Q _ => ∃ (t D1 D2 D3 : Addr) (S : List Ent), vs = [.ref t] ∧ TbX (He.ga K "Tables") H t D1 D2 D3 S ∧ S.length < 1000 ∧
  ∀ (t' E1 E2 E3 : Addr) (S' : List Ent) (H' : Hp), Evl.Ex H H' → Fresh H t' E1 E2 E3 S' → TbX (He.ga K "Tables") H' t' E1 E2 E3 S' → S'.map shp = S.map shp → Q (.ref t') H'
theorem keys_getD {α : Type} (f : α → V) (d : V) : ∀ xs : List α, (List.range xs.length).map (fun j => (xs[j]?.map f).getD d) = xs.map f := by
  intro xs
  refine List.ext_getElem? fun i => ?_
  rw [List.getElem?_map, List.getElem?_map]
  by_cases h : i < xs.length
  · rw [List.getElem?_eq_getElem (by simpa using h), List.getElem_range]
    simp [h]
  · rw [List.getElem?_eq_none (by simpa using h), List.getElem?_eq_none (by omega)]
    rfl
theorem ent_of : ∀ {S : List Ent}, (S.map (·.name)).Nodup → ∀ {e : Ent}, e ∈ S → ent S e.name = some e := by
  intro S hn e he
  cases q : ent S e.name with
  | none =>
    have := List.find?_eq_none.mp q e he
    simp at this
  | some e' => rw [nd_name hn (ent_mem q) he (ent_name q)]
section
variable {P : Program} {w : World} {K : PySem.W.Frag} {mg : Str → Option Value} {base : Heap} {f : Addr} {fd : FuncData}
abbrev sTables_without : Stmt := inClass (top 41) 13
abbrev nTables_without : List Str := ["self", "names", "twin", "loader"]
theorem scTables_without : FnScope nTables_without ["self", "names"] (defScope sTables_without) := ⟨rfl, rfl, rfl, by decide +kernel, rfl, by decide +kernel, by decide +kernel⟩
theorem okTables_without (F : FunD K "without" "Tables.without" (defArgs sTables_without) (defBody sTables_without) (defScope sTables_without) [] [] f fd) (D : TK P w K mg base) : FnOk P w K mg base CX0 3 f fd ["self", "names"] (spWithout K) := by
  have T := D.t
  obtain ⟨fdI, FI⟩ := D.f___init__
  have GI := okTables___init__ (P := P) (w := w) (base := base) FI D.d D.c
  have bI : Binds K fdI ["self"] [] := FunD.bindsN FI fun _ _ _ _ _ _ us hl => match us, hl with | [_], _ => rfl
  refine F.ok scTables_without (fun vs H Q E h => ?_) (fun cdv A outer s H vs Q E hr h => ?_)
  · obtain ⟨t, nm, D1, D2, D3, S, rfl, _⟩ := h
    rfl
  · obtain ⟨t, nm, D1, D2, D3, S, rfl, hT, hnm, hl, hQ⟩ := h
    refine ⟨_, PSs.nox (pss_cons (ps_set (i := 2) scTables_without.nd rfl (Or.inl rfl) (pe_make0 D.mkT GI (hr.mono (by decide)) rfl D.hT bI .nil pass0))
      (pss_cons (ps_for PassesOwn.never rfl (pi_list (pe_lock (pe_lc  (own := [("loader", 3)]) (g := gName 3) rfl scTables_without.nd (pi_keys (pe_fld (pv 0) rfl)) (blkOk_by (N := nTables_without) (sc := defScope sTables_without) (by decide +kernel)) (fun _ _ _ _ _ => (pg_name (i := 3) scTables_without.nd rfl (Or.inl rfl))) (fun _ _ _ _ _ => (pts_one (pt_cmpR (r := rIn K true) op_notIn_seq (pv 3) (pv 1) (by rfl)))) (fun _ _ _ _ _ => (pv 3))))) (pg_name (i := 3) scTables_without.nd rfl (Or.inl rfl))
        (pss_cons (ps_asg (pe_callTy call_dictD rfl D.gdict boot_dict (pa_cons (pe_dget (hu1 hr) (pe_fld (pv 0) rfl) (pv 3) (fun _ _ => rfl)) pa_nil)) (pg_sub (pe_fld (pv 2) rfl) (pv 3) (set_dict (hu1 hr))))
        (pss_cons (ps_asg (pe_callTy call_dictD rfl D.gdict boot_dict (pa_cons (pe_dget (hu1 hr) (pe_fld (pv 0) rfl) (pv 3) (fun _ _ => rfl)) pa_nil)) (pg_sub (pe_fld (pv 2) rfl) (pv 3) (set_dict (hu1 hr))))
        (pss_one (ps_asg (pe_dget (hu1 hr) (pe_fld (pv 0) rfl) (pv 3) (fun _ _ => rfl)) (pg_sub (pe_fld (pv 2) rfl) (pv 3) (set_dict (hu1 hr))))))))
      (pss_one (ps_ret (pv 2))))), ?_⟩
    obtain ⟨dt, ht⟩ := hT.ob
    intro t' dx' nt' ndx' hne
    have eX : Evl.Ex H (upd (upd H dx' (.own t')) t' (.ins (He.ga K "Tables") dx' [])) := fun b o e => by
      rw [upd_ne (by rintro rfl; rw [nt'] at e; cases e), upd_ne (by rintro rfl; rw [ndx'] at e; cases e)]; exact e
    refine ⟨t', dx', rfl, upd_same, fun E1 E2 E3 H1 ht1 hE1 hE2 hE3 nE1 nE2 nE3 n12 n13 n23 k1 => ⟨rfl, ?_⟩⟩
    have e1 : Evl.Ex H H1 := fun b o e => k1 b o (by rintro rfl; rw [nt'] at e; cases e) (eX _ _ e)
    have f1 := ex_noH eX nE1
    have f2 := ex_noH eX nE2
    have f3 := ex_noH eX nE3
    clear k1 nE1 nE2 nE3
    have hT1 := hT.ext e1
    have hu := e1 _ _ hT.h1
    refine ⟨D1, _, hu, trivial, fun od => ?_⟩
    have t1 : t ≠ D1 := by rintro rfl; rw [hT.h1] at ht; cases ht
    refine ⟨_, rfl, t, _, dt, _, _, rfl, (upd_ne t1).trans (e1 _ _ ht), D.c.cl, D.c.n1, rfl, D1, od, rfl, .inl ⟨_, upd_same, fun L hL => ?_⟩⟩
    have nmD : nm ≠ D1 := by rintro rfl; rw [hT.h1] at hnm; cases hnm
    refine lc_filt (walk_keys (o := od) (kvs := dT S)) hL (fun H' e => e _ _ upd_same) (fun _ => true) (fun j => ((dT S)[j]?.map fun kv => kV kv.1).getD .non) (by rw [show (dT S).length = S.length from List.length_map _]; omega) (fun j H3 x H4 _ _ y => by rw [y.1]; exact Evl.Ex.refl _) ?_ ?_
    · rintro j x _ H3 hj e3 _ ⟨rfl, k, v, hkv, rfl⟩ Qa Qb ha hb
      have hfl : flatV (kV k) = true := by cases k <;> rfl
      refine ⟨rfl, _, rfl, _, rfl, nm, [], rfl, .inl (SqL.of (e3 _ _ ((upd_ne nmD).trans (e1 _ _ hnm)))), hfl, rfl, _, rfl, ifT rfl ⟨_, rfl, ?_⟩⟩
      have q := ha H3 (Evl.Ex.refl _) rfl
      rw [hkv] at q
      exact q
    intro H3 e3 hL3
    refine ⟨e3 _ _ upd_same, ?_⟩
    have hflt : ((List.range (dT S).length).filter fun _ => true).map (fun j => ((dT S)[j]?.map fun kv => kV kv.1).getD .non) = (S.map (·.name)).map V.str := by
      rw [List.filter_eq_self.mpr (fun _ _ => rfl), keys_getD (fun kv : Key × V => kV kv.1), keys_dT]
    rw [hflt] at hL3
    have nLD : L ≠ D1 := by rintro rfl; rw [upd_same] at hL; cases hL
    have e4 : Evl.Ex H1 (upd H3 D1 (.dK (dT S))) := fun b o e => by
      by_cases hb : b = D1
      · rw [hb, upd_same]; rw [hb, hu] at e; exact e
      · rw [upd_ne hb]; exact e3 _ _ ((upd_ne hb).trans e)
    have hL4 : upd H3 D1 (.dK (dT S)) L = some (.lst ((S.map (·.name)).map V.str)) := (upd_ne nLD).trans hL3
    generalize upd H3 D1 (.dK (dT S)) = H4 at e4 hL4
    clear e3 hL3 hflt hL nLD
    refine ⟨L, rfl, ⟨_, SqL.of hL4⟩, ?_⟩
    have fT : TbX (He.ga K "Tables") H1 t' E1 E2 E3 [] := ⟨⟨dx', ht1⟩, hE1, hE2, hE3, (by intro _ h; cases h), ⟨n12, n13, n23, (by intro _ h; cases h), (by intro _ h; cases h), (by intro _ h; cases h), (by intro _ h; cases h)⟩, .nil⟩
    have hlen : ((S.map (·.name)).map V.str).length = S.length := by simp
    refine for_it (walk_list (xs := (S.map (·.name)).map V.str)) (fun i σ H' => Evl.Ex H H' ∧ H' L = some (.lst ((S.map (·.name)).map V.str)) ∧ ∃ S' v3, TbX (He.ga K "Tables") H' t' E1 E2 E3 S' ∧ S'.map shp = (S.take i).map shp ∧ (∀ e ∈ S', H e.T = none ∧ H e.A = none) ∧ σ = [some (.ref t), some (.ref nm), some (.ref t'), v3])
      ⟨e1.trans e4, hL4, [], none, fT.ext e4, rfl, (by intro _ h; cases h), rfl⟩ (fun j σ H' _ h => SqL.of h.2.1) ?_ ?_
    · rintro i y σ _ H5 hi ⟨e5, hL5, S', v3, hT5, hsh, hfr, rfl⟩ ⟨rfl, hy⟩
      rw [hlen] at hi
      have hiS : S[i]? = some S[i] := List.getElem?_eq_getElem hi
      generalize S[i] = e at hiS
      rw [List.getElem?_map, List.getElem?_map, hiS] at hy
      cases hy
      have he := List.mem_of_getElem? hiS
      have hmm := hT.h4 e he
      have hent := ent_of hT.nn he
      have hz : inT S' (.str e.name) = false := by
        have hn' : S'.map (·.name) = (S.take i).map (·.name) := by
          have := congrArg (List.map Prod.fst) hsh
          rw [List.map_map, List.map_map] at this
          exact this
        cases q : inT S' (.str e.name) with
        | false => rfl
        | true =>
          obtain ⟨e', he'⟩ : ∃ e', ent S' e.name = some e' := Option.isSome_iff_exists.mp q
          have h1 : e.name ∈ S'.map (·.name) := List.mem_map.mpr ⟨e', ent_mem he', ent_name he'⟩
          rw [hn', List.map_take] at h1
          obtain ⟨m, hm, hm2⟩ := List.mem_take_iff_getElem.mp h1
          have h2 : Idx S e.name i := by show (S.map (·.name))[i]? = _; rw [List.getElem?_map, hiS]; rfl
          exact absurd rfl (h2.not hT.nn (show m < i from by omega) (y := e.name) (by rw [List.getElem?_eq_some_iff]; exact ⟨by omega, hm2⟩))
      obtain ⟨dt', ht5⟩ := hT5.ob
      have hl' : S'.length < 1000 := by
        have := congrArg List.length hsh
        rw [List.length_map, List.length_map, List.length_take] at this
        omega
      have gT : ∀ {G : Hp}, Evl.Ex H G → DGet G D1 (.str e.name) (some (.ref e.T)) := fun x => by have g := DGet.k (k := .inr e.name) (x _ _ hT.h1); rw [val_dT, hent] at g; exact g
      have gA : ∀ {G : Hp}, Evl.Ex H G → DGet G D2 (.str e.name) (some (.ref e.A)) := fun x => by have g := DGet.k (k := .inr e.name) (x _ _ hT.h2); rw [val_dA, hent] at g; exact g
      have gR : ∀ {G : Hp}, Evl.Ex H G → DGet G D3 (.str e.name) (some .non) := fun x => by have g := DGet.k (k := .inr e.name) (x _ _ hT.h3); rw [val_dR, hent] at g; exact g
      have hv0 : ent S' e.name = none := Option.not_isSome_iff_eq_none.mp (by rw [show (ent S' e.name).isSome = inT S' (.str e.name) from rfl, hz]; exact Bool.false_ne_true)
      have t1 : t' ≠ E1 := by rintro rfl; rw [hT5.h1] at ht5; cases ht5
      have t2 : t' ≠ E2 := by rintro rfl; rw [hT5.h2] at ht5; cases ht5
      have t3 : t' ≠ E3 := by rintro rfl; rw [hT5.h3] at ht5; cases ht5
      have hlS : ∀ {β : Type} (g : Ent → β), (S'.map g).length < sizeLine := fun g => by rw [List.length_map, sizeLine_eq]; omega
      refine ⟨_, rfl, t, _, dt, _, _, rfl, e5 _ _ ht, D.c.cl, D.c.n1, rfl, _, rfl, D1, _, rfl, gT e5, e.T, _, rfl, .inl (e5 _ _ hmm.1), fun p hp => ?_⟩
      have n1 := Evl.Ex.new (o := .dK (kvT e)) hp
      have kT := upd_same (H := H5) (a := p) (o := .dK (kvT e))
      refine ⟨_, rfl, t', _, dt', _, _, rfl, n1 _ _ ht5, D.c.cl, D.c.n1, rfl, _, rfl, E1, _, rfl, DPut.k (k := .inr e.name) (n1 _ _ hT5.h1) (hlS _), ?_⟩
      rw [putK_new (.ref p) (show valV (dT S') (.inr e.name) = none from by rw [val_dT, hv0]; rfl)]
      have e6 := (e5.trans n1).mut (o := .dK (dT S' ++ [(.inr e.name, .ref p)])) f1
      refine ⟨_, rfl, t, _, dt, _, _, rfl, e6 _ _ ht, D.c.cl, D.c.n2, rfl, _, rfl, D2, _, rfl, gA e6, e.A, _, rfl, .inl (e6 _ _ hmm.2), fun p2 hp2 => ?_⟩
      have nP : p ≠ E1 := by rintro rfl; rw [hT5.h1] at hp; cases hp
      have nP2 : p ≠ E2 := by rintro rfl; rw [hT5.h2] at hp; cases hp
      have nP3 : p ≠ E3 := by rintro rfl; rw [hT5.h3] at hp; cases hp
      have q1 : p2 ≠ E1 := by rintro rfl; rw [upd_same] at hp2; cases hp2
      rw [upd_ne q1] at hp2
      have q0 : p2 ≠ p := by rintro rfl; rw [upd_same] at hp2; cases hp2
      rw [upd_ne q0] at hp2
      have q2 : p2 ≠ E2 := by rintro rfl; rw [hT5.h2] at hp2; cases hp2
      have q3 : p2 ≠ E3 := by rintro rfl; rw [hT5.h3] at hp2; cases hp2
      -- the heap so far: H5, p, E1, p2
      have k6 : ∀ b o, b ≠ E1 → b ≠ p2 → upd H5 p (.dK (kvT e)) b = some o → upd (upd (upd H5 p (.dK (kvT e))) E1 (.dK (dT S' ++ [(.inr e.name, .ref p)]))) p2 (.dK (kvA e)) b = some o := fun b o b1 b2 hb => by rw [upd_ne b2, upd_ne b1]; exact hb
      have nx2 : ∀ {b : Addr} {o : HO}, H5 b = some o → b ≠ p2 := fun hb z => by rw [z, hp2] at hb; cases hb
      have k2 := k6 E2 _ (Ne.symm n12) (Ne.symm q2) (n1 _ _ hT5.h2)
      have k3 := k6 E3 _ (Ne.symm n13) (Ne.symm q3) (n1 _ _ hT5.h3)
      have kt := k6 t' _ t1 (nx2 ht5) (n1 _ _ ht5)
      have kP := k6 p _ nP (Ne.symm q0) kT
      have kE1 : upd (upd (upd H5 p (.dK (kvT e))) E1 (.dK (dT S' ++ [(.inr e.name, .ref p)]))) p2 (.dK (kvA e)) E1 = some (.dK (dT S' ++ [(.inr e.name, .ref p)])) := by rw [upd_ne (Ne.symm q1), upd_same]
      have kP2 := upd_same (H := upd (upd H5 p (.dK (kvT e))) E1 (.dK (dT S' ++ [(.inr e.name, .ref p)]))) (a := p2) (o := .dK (kvA e))
      have kk6 : ∀ b o, b ≠ E1 → H5 b = some o → upd (upd (upd H5 p (.dK (kvT e))) E1 (.dK (dT S' ++ [(.inr e.name, .ref p)]))) p2 (.dK (kvA e)) b = some o := fun b o b1 hb => k6 b o b1 (nx2 hb) (n1 _ _ hb)
      have e7 : Evl.Ex H (upd (upd (upd H5 p (.dK (kvT e))) E1 (.dK (dT S' ++ [(.inr e.name, .ref p)]))) p2 (.dK (kvA e))) := fun b o hb => kk6 b o (by rintro rfl; rw [f1] at hb; cases hb) (e5 _ _ hb)
      generalize upd (upd (upd H5 p (.dK (kvT e))) E1 (.dK (dT S' ++ [(.inr e.name, .ref p)]))) p2 (.dK (kvA e)) = H7 at k2 k3 kt kP kE1 kP2 kk6 e7
      clear k6 kT n1 e6
      refine ⟨_, rfl, t', _, dt', _, _, rfl, kt, D.c.cl, D.c.n2, rfl, _, rfl, E2, _, rfl, DPut.k (k := .inr e.name) k2 (hlS _), ?_⟩
      rw [putK_new (.ref p2) (show valV (dA S') (.inr e.name) = none from by rw [val_dA, hv0]; rfl)]
      have e8 := e7.mut (o := .dK (dA S' ++ [(.inr e.name, .ref p2)])) f2
      refine ⟨_, rfl, t, _, dt, _, _, rfl, e8 _ _ ht, D.c.cl, D.c.n3, rfl, _, rfl, D3, _, rfl, gR e8, ?_⟩
      refine ⟨_, rfl, t', _, dt', _, _, rfl, (upd_ne t2).trans kt, D.c.cl, D.c.n3, rfl, _, rfl, E3, _, rfl, DPut.k (k := .inr e.name) ((upd_ne (Ne.symm n23)).trans k3) (hlS _), ?_⟩
      rw [putK_new .non (show valV (dR S') (.inr e.name) = none from by rw [val_dR, hv0]; rfl)]
      have e9 := e8.mut (o := .dK (dR S' ++ [(.inr e.name, .non)])) f3
      have kk : ∀ b o, b ≠ E1 → b ≠ E2 → b ≠ E3 → H5 b = some o → upd (upd H7 E2 (.dK (dA S' ++ [(.inr e.name, .ref p2)]))) E3 (.dK (dR S' ++ [(.inr e.name, .non)])) b = some o := fun b o b1 b2 b3 hb => by
        rw [upd_ne b3, upd_ne b2]; exact kk6 b o b1 hb
      refine ⟨e9, ?_, S' ++ [⟨e.name, p, p2, e.ts, e.as⟩], _, hT5.push hz hp hp2 (Ne.symm q0) ?_ ?_ ?_ ?_ ?_ kk, ?_, ?_, rfl⟩
      · refine kk L _ ?_ ?_ ?_ hL5
        · rintro rfl; rw [hT5.h1] at hL5; cases hL5
        · rintro rfl; rw [hT5.h2] at hL5; cases hL5
        · rintro rfl; rw [hT5.h3] at hL5; cases hL5
      · rw [upd_ne nP3, upd_ne nP2]; exact kP
      · rw [upd_ne q3, upd_ne q2]; exact kP2
      · rw [upd_ne n13, upd_ne n12]; exact kE1
      · rw [upd_ne n23, upd_same]
      · rw [upd_same]
      · rw [List.map_append, hsh, List.take_succ, hiS, List.map_append]
        rfl
      · intro x hx
        rcases List.mem_append.mp hx with hx | hx
        · exact hfr x hx
        · rw [List.mem_singleton.mp hx]
          exact ⟨ex_noH e5 hp, ex_noH e5 hp2⟩
    · rintro σ H5 ⟨e5, hL5, S', v3, hT5, hsh, hfr, rfl⟩
      refine ⟨_, rfl, hQ t' E1 E2 E3 S' H5 e5 ⟨nt', f1, f2, f3, hfr⟩ hT5 ?_⟩
      rw [hlen, List.take_length] at hsh
      exact hsh
abbrev sTables_copy : Stmt := inClass (top 41) 14
abbrev nTables_copy : List Str := ["self"]
theorem scTables_copy : FnScope nTables_copy ["self"] (defScope sTables_copy) := ⟨rfl, rfl, rfl, by decide +kernel, rfl, by decide +kernel, by decide +kernel⟩
theorem okTables_copy (F : FunD K "copy" "Tables.copy" (defArgs sTables_copy) (defBody sTables_copy) (defScope sTables_copy) [] [] f fd) (D : TK P w K mg base) : FnOk P w K mg base CX0 4 f fd ["self"] (spCopy K) := by
  have T := D.t
  obtain ⟨fdm_without, Fm_without⟩ := D.f_without
  have Gm_without := okTables_without (P := P) (w := w) (base := base) Fm_without D
  have bm_without : Binds K fdm_without ["self", "names"] [] := FunD.bindsN Fm_without fun _ _ _ _ _ _ us hl => match us, hl with | [_, _], _ => rfl
  refine F.ok scTables_copy (fun vs H Q E h => ?_) (fun cdv A outer s H vs Q E hr h => ?_)
  · obtain ⟨t, D1, D2, D3, S, rfl, _⟩ := h
    rfl
  · obtain ⟨t, D1, D2, D3, S, rfl, hT, hl, hQ⟩ := h
    refine ⟨_, PSs.nox (pss_one (ps_ret (pe_meth (pv 0) D.c.cl D.m_without Gm_without (hr.mono (by decide)) bm_without .nil pass0 (pa_cons (pe_lst pa_nil) pa_nil)))), ?_⟩
    obtain ⟨dt, ht⟩ := hT.ob
    refine ⟨_, rfl, t, dt, _, rfl, ht, rfl, le_line (by simp), fun L hL => ?_⟩
    have e1 := Evl.Ex.new (o := .lst []) hL
    exact ⟨t, L, D1, D2, D3, S, rfl, hT.ext e1, upd_same, hl, fun t' E1 E2 E3 S' H' e hf hT' hs => hQ t' E1 E2 E3 S' H' (e1.trans e) (hf.back e1) hT' hs⟩
end
end K06

set_option Elab.async false
set_option linter.all false
set_option maxRecDepth 100000
set_option maxHeartbeats 0
/-! == of tables, of class texts; classes -/
namespace K06
open PySem PySem.Spec PyProof.Rows L2 EX2 TX
def spTEq (K : PySem.W.Frag) : Sp := fun vs H Q _ => ∃ (t u D1 D2 D3 E1 E2 E3 : Addr) (S S' : List Ent), vs = [.ref t, .ref u] ∧ TbX (He.ga K "Tables") H t D1 D2 D3 S ∧ TbX (He.ga K "Tables") H u E1 E2 E3 S' ∧ S'.map shp = S.map shp ∧ S.length < 1000 ∧
  (∀ e ∈ S, e.ts.length ≤ 1 ∧ e.as.length ≤ 1 ∧ ∀ q ∈ e.ts, ∃ c, q.2 = .ref c) ∧ ((S.map fun e => e.name).all fun z => (PyData.str z).canLay0) = true ∧ ∀ H', Evl.Ex H H' → Q (.bl true) H'
def spCEq (C : Addr) : Sp := fun vs H Q _ => ∃ (a b da db : Addr) (z : Str) (mk fl me : Addr), vs = [.ref a, .ref b] ∧ H a = some (.ins C da (zfields z mk fl me)) ∧ H b = some (.ins C db (zfields z mk fl me)) ∧ ∀ H', Evl.Ex H H' → Q (.bl true) H'
def spCls (K : PySem.W.Frag) : Sp := fun vs H Q _ => ∃ (l t : Addr) (z : Str) (S : List Ent) (e : Ent), vs = [.ref l] ∧ LdAt (He.ga K "Loader") H l t z ∧ TbAt (He.ga K "Tables") H t S ∧ ent S z = some e ∧ ∀ q, H q = none → Q (.ref q) (upd H q (.tup ((kvT e).map fun kv => kV kv.1)))
section
variable {P : Program} {w : World} {K : PySem.W.Frag} {mg : Str → Option Value} {base : Heap} {f : Addr} {fd : FuncData}
abbrev sClassText_parts : Stmt := inClass (top 38) 9
abbrev nClassText_parts : List Str := ["self"]
theorem scClassText_parts : FnScope nClassText_parts ["self"] (defScope sClassText_parts) := ⟨rfl, rfl, rfl, by decide +kernel, rfl, by decide +kernel, by decide +kernel⟩
theorem okClassText_parts (F : FunD K "parts" "ClassText.parts" (defArgs sClassText_parts) (defBody sClassText_parts) (defScope sClassText_parts) [] [] f fd) (D : TK P w K mg base) : FnOk P w K mg base CX0 1 f fd ["self"] (fun vs H Q _ => ∃ (a dx : Addr) (z : Str) (mk fl me : Addr), vs = [.ref a] ∧ H a = some (.ins (He.ga K "ClassText") dx (zfields z mk fl me)) ∧ ∀ L, H L = none → Q (.ref L) (upd H L (.lst [.str z, .str "top", .ref mk, .ref fl, .ref me]))) := by
  have T := D.t
  refine F.ok scClassText_parts (fun vs H Q E h => ?_) (fun cdv A outer s H vs Q E hr h => ?_)
  · obtain ⟨a, dx, z, mk, fl, me, rfl, _⟩ := h
    rfl
  · obtain ⟨a, dx, z, mk, fl, me, rfl, ha, hQ⟩ := h
    refine ⟨_, PSs.nox (pss_one (ps_ret (pe_lst (pa_cons (pe_fld (pv 0) rfl) (pa_cons (pe_fld (pv 0) rfl) (pa_cons (pe_fld (pv 0) rfl) (pa_cons (pe_fld (pv 0) rfl) (pa_cons (pe_fld (pv 0) rfl) pa_nil)))))))), ?_⟩
    exact ⟨_, rfl, a, _, dx, _, _, rfl, ha, D.ct.cl, D.ct.n1, rfl, _, rfl, a, _, dx, _, _, rfl, ha, D.ct.cl, D.ct.n2, rfl, _, rfl, a, _, dx, _, _, rfl, ha, D.ct.cl, D.ct.n3, rfl, _, rfl, a, _, dx, _, _, rfl, ha, D.ct.cl, D.ct.n4, rfl, _, rfl, a, _, dx, _, _, rfl, ha, D.ct.cl, D.ct.n5, rfl, le_line (by simp), fun L hL => hQ L hL⟩
abbrev sClassText___eq__ : Stmt := inClass (top 38) 10
abbrev nClassText___eq__ : List Str := ["self", "other"]
theorem scClassText___eq__ : FnScope nClassText___eq__ ["self", "other"] (defScope sClassText___eq__) := ⟨rfl, rfl, rfl, by decide +kernel, rfl, by decide +kernel, by decide +kernel⟩
theorem okClassText___eq__ (F : FunD K "__eq__" "ClassText.__eq__" (defArgs sClassText___eq__) (defBody sClassText___eq__) (defScope sClassText___eq__) [] [] f fd) (D : TK P w K mg base) : FnOk P w K mg base CX0 2 f fd ["self", "other"] (spCEq (He.ga K "ClassText")) := by
  have T := D.t
  obtain ⟨fdP, FP⟩ := D.fc_parts
  have GP := okClassText_parts (P := P) (w := w) (base := base) FP D
  have bP : Binds K fdP ["self"] [] := FunD.bindsN FP fun _ _ _ _ _ _ us hl => match us, hl with | [_], _ => rfl
  refine F.ok scClassText___eq__ (fun vs H Q E h => ?_) (fun cdv A outer s H vs Q E hr h => ?_)
  · obtain ⟨a, b, da, db, z, mk, fl, me, rfl, _⟩ := h
    rfl
  · obtain ⟨a, b, da, db, z, mk, fl, me, rfl, ha, hb, hQ⟩ := h
    refine ⟨_, PSs.nox (pss_one (ps_ret (pe_and (pe_callB call_isi rfl T.isi boot_isi (pa_cons (pv 1) (pa_cons (pe_glob rfl D.hC (v := .ref (He.ga K "ClassText")) rfl) pa_nil))) (pe_one (pe_cmpR (op_eqV hr.units) (pe_meth0 (pv 0) D.ct.cl D.c_parts GP (hr.mono (by decide)) bP .nil pass0) (pe_meth0 (pv 1) D.ct.cl D.c_parts GP (hr.mono (by decide)) bP .nil pass0) (nomark _)))))), ?_⟩
    refine ⟨_, rfl, _, _, _, _, _, rfl, .own _, .base (.ins hb D.ct.cl D.insC.ha D.insC.hn D.insC.ht D.insC.hm), D.insC.kc, _, rfl, iteT ?_⟩
    refine ⟨_, rfl, a, da, _, rfl, ha, rfl, a, da, z, mk, fl, me, rfl, ha, fun L hL => ?_⟩
    have e1 := Evl.Ex.new (o := .lst [.str z, .str "top", .ref mk, .ref fl, .ref me]) hL
    have h1 := upd_same (H := H) (a := L) (o := .lst [.str z, .str "top", .ref mk, .ref fl, .ref me])
    refine ⟨_, rfl, b, db, _, rfl, e1 _ _ hb, rfl, b, db, z, mk, fl, me, rfl, e1 _ _ hb, fun L2 hL2 => ?_⟩
    have e2 := Evl.Ex.new (o := .lst [.str z, .str "top", .ref mk, .ref fl, .ref me]) hL2
    refine ⟨1, by decide, .inl ⟨L, L2, _, _, rfl, rfl, SqL.of (e2 _ _ h1), SqL.of upd_same, .cons (.inl ⟨rfl, rfl⟩) (.cons (.inl ⟨rfl, rfl⟩) (.cons (.inr (.inl ⟨_, rfl, rfl⟩)) (.cons (.inr (.inl ⟨_, rfl, rfl⟩)) (.cons (.inr (.inl ⟨_, rfl, rfl⟩)) .nil))))⟩, ?_⟩
    exact hQ _ (e1.trans e2)
abbrev sLoader_classes : Stmt := inClass (top 40) 4
abbrev nLoader_classes : List Str := ["self"]
theorem scLoader_classes : FnScope nLoader_classes ["self"] (defScope sLoader_classes) := ⟨rfl, rfl, rfl, by decide +kernel, rfl, by decide +kernel, by decide +kernel⟩
theorem okLoader_classes (F : FunD K "classes" "Loader.classes" (defArgs sLoader_classes) (defBody sLoader_classes) (defScope sLoader_classes) [] [] f fd) (D : TK P w K mg base) : FnOk P w K mg base CX0 1 f fd ["self"] (spCls K) := by
  have T := D.t
  refine F.ok scLoader_classes (fun vs H Q E h => ?_) (fun cdv A outer s H vs Q E hr h => ?_)
  · obtain ⟨l, t, z, S, e, rfl, _⟩ := h
    rfl
  · obtain ⟨l, t, z, S, e, rfl, ⟨dl, hl⟩, ⟨D1, D2, D3, ⟨dt, ht⟩, h1, h2, h3, h4⟩, he, hQ⟩ := h
    refine ⟨_, PSs.nox (pss_one (ps_ret (pe_callTy (call_tuple_dK rfl) rfl T.tup boot_tuple (pa_cons (pe_dget (hu1 hr) (pe_fld (pe_fld (pv 0) rfl) rfl) (pe_fld (pv 0) rfl) (fun _ _ => rfl)) pa_nil)))), ?_⟩
    have gD : DGet H D1 (.str z) (some (.ref e.T)) := by have g := DGet.k (k := .inr z) h1; rw [val_dT, he] at g; exact g
    exact ⟨_, rfl, l, _, dl, _, _, rfl, hl, D.clL, D.nL1, rfl, t, _, dt, _, _, rfl, ht, D.c.cl, D.c.n1, rfl, _, rfl, l, _, dl, _, _, rfl, hl, D.clL, D.nL2, rfl, D1, _, rfl, gD, e.T, _, rfl, (h4 e (ent_mem he)).1, fun q hq => hQ q hq⟩
theorem one_of {α : Type} {xs : List α} {q : α} (h : xs.length ≤ 1) (hq : q ∈ xs) : ∃ x, xs = [x] := by
  match xs, h, hq with
  | [x], _, _ => exact ⟨x, rfl⟩
theorem depthAll_le0 : ∀ zs : List Str, PyData.depthAll (zs.map PyData.str) ≤ 0
  | [] => Nat.le_refl _
  | z :: zs => by
    rw [List.map_cons, PyData.depthAll]
    exact Nat.max_le.mpr ⟨Nat.le_refl _, depthAll_le0 zs⟩
theorem all_strs {H : Hp} : ∀ zs : List Str, DqAll H (zs.map V.str) (zs.map PyData.str)
  | [] => .nil
  | z :: zs => .cons (.str z) (all_strs zs)
theorem lay_strs : ∀ {zs : List Str}, (zs.all fun z => (PyData.str z).canLay0) = true → (PyData.list (zs.map PyData.str)).canLay0 = true := by
  intro zs h
  show PyData.canLayAll0 (zs.map PyData.str) = true
  induction zs with
  | nil => rfl
  | cons z zs ih =>
    rw [List.all_cons, Bool.and_eq_true] at h
    rw [List.map_cons, PyData.canLayAll0, h.1, ih h.2]
    rfl
theorem shp_ent {S S' : List Ent} (h : S'.map shp = S.map shp) {e : Ent} {z : Str} (he : ent S z = some e) : ∃ e', ent S' z = some e' ∧ e'.ts = e.ts ∧ e'.as = e.as := by
  induction S' generalizing S with
  | nil =>
    cases S with
    | nil => cases he
    | cons _ _ => cases h
  | cons x S' ih =>
    cases S with
    | nil => cases h
    | cons y S =>
      rw [List.map_cons, List.map_cons, List.cons.injEq] at h
      obtain ⟨hxy, ht⟩ := h
      obtain ⟨n1, n2⟩ := Prod.mk.inj hxy
      obtain ⟨n3, n4⟩ := Prod.mk.inj n2
      unfold ent at he ⊢
      by_cases q : y.name = z
      · rw [List.find?_cons_of_pos (by simpa using q)] at he
        cases he
        exact ⟨x, List.find?_cons_of_pos (by simpa using n1.trans q), n3, n4⟩
      · rw [List.find?_cons_of_neg (by simpa using q)] at he
        obtain ⟨e', h1, h2⟩ := ih ht he
        exact ⟨e', by rw [List.find?_cons_of_neg (by simpa using fun w => q (n1.symm.trans w))]; exact h1, h2⟩
abbrev sTables___eq__ : Stmt := inClass (top 41) 19
abbrev nTables___eq__ : List Str := ["self", "other"]
theorem scTables___eq__ : FnScope nTables___eq__ ["self", "other"] (defScope sTables___eq__) := ⟨rfl, rfl, rfl, by decide +kernel, rfl, by decide +kernel, by decide +kernel⟩
theorem okTables___eq__ (F : FunD K "__eq__" "Tables.__eq__" (defArgs sTables___eq__) (defBody sTables___eq__) (defScope sTables___eq__) [] [] f fd) (D : TK P w K mg base) : FnOk P w K mg base CX0 2 f fd ["self", "other"] (spTEq K) := by
  have T := D.t
  obtain ⟨fdP, FP⟩ := D.f_parts
  have GP := okTables_parts (P := P) (w := w) (base := base) FP D
  have bP : Binds K fdP ["self"] [] := FunD.bindsN FP fun _ _ _ _ _ _ us hl => match us, hl with | [_], _ => rfl
  obtain ⟨fdm_parts, Fm_parts⟩ := D.f_parts
  have Gm_parts := okTables_parts (P := P) (w := w) (base := base) Fm_parts D
  have bm_parts : Binds K fdm_parts ["self"] [] := FunD.bindsN Fm_parts fun _ _ _ _ _ _ us hl => match us, hl with | [_], _ => rfl
  refine F.ok scTables___eq__ (fun vs H Q E h => ?_) (fun cdv A outer s H vs Q E hr h => ?_)
  · obtain ⟨t, u, D1, D2, D3, E1, E2, E3, S, S', rfl, _⟩ := h
    rfl
  · obtain ⟨t, u, D1, D2, D3, E1, E2, E3, S, S', rfl, hT, hU, hsh, hl, hrf, hlay, hQ⟩ := h
    refine ⟨_, PSs.nox (pss_one (ps_ret (pe_and (pe_callB call_isi rfl T.isi boot_isi (pa_cons (pv 1) (pa_cons (pe_glob rfl D.hT (v := .ref (He.ga K "Tables")) rfl) pa_nil))) (pe_and (pe_cmpR (op_eqD hr.units) (pe_callTy (call_listD rfl) rfl T.lst boot_list (pa_cons (pe_fld (pv 0) rfl) pa_nil)) (pe_callTy (call_listD rfl) rfl T.lst boot_list (pa_cons (pe_fld (pv 1) rfl) pa_nil)) (nomark _)) (pe_one (pe_cmpR (op_eqV hr.units) (pe_meth0 (pv 0) D.c.cl D.m_parts Gm_parts (hr.mono (by decide)) bm_parts .nil pass0) (pe_meth0 (pv 1) D.c.cl D.m_parts GP (hr.mono (by decide)) bP .nil pass0) (nomark _))))))), ?_⟩
    obtain ⟨dt, ht⟩ := hT.ob
    obtain ⟨du, hu⟩ := hU.ob
    refine ⟨_, rfl, _, _, _, _, _, rfl, .own _, .base (.ins hu D.c.cl D.insT.ha D.insT.hn D.insT.ht D.insT.hm), D.insT.kc, _, rfl, iteT ?_⟩
    refine ⟨_, rfl, t, _, dt, _, _, rfl, ht, D.c.cl, D.c.n1, rfl, _, _, rfl, .inl hT.h1, fun L hL => ?_⟩
    have e1 := Evl.Ex.new (o := .lst ((dT S).map fun kv => kV kv.1)) hL
    have h1 := upd_same (H := H) (a := L) (o := .lst ((dT S).map fun kv => kV kv.1))
    generalize upd H L (.lst ((dT S).map fun kv => kV kv.1)) = H1 at e1 h1
    refine ⟨_, rfl, u, _, du, _, _, rfl, e1 _ _ hu, D.c.cl, D.c.n1, rfl, _, _, rfl, .inl (e1 _ _ hU.h1), fun L2 hL2 => ?_⟩
    have e2 := Evl.Ex.new (o := .lst ((dT S').map fun kv => kV kv.1)) hL2
    have h2 := upd_same (H := H1) (a := L2) (o := .lst ((dT S').map fun kv => kV kv.1))
    have e12 := e1.trans e2
    have h12 := e2 _ _ h1
    generalize upd H1 L2 (.lst ((dT S').map fun kv => kV kv.1)) = H2 at e2 h2 e12 h12
    have hnn : S'.map (·.name) = S.map (·.name) := by
      have := congrArg (List.map Prod.fst) hsh
      rw [List.map_map, List.map_map] at this
      exact this
    rw [keys_dT] at h2 h12
    rw [hnn] at h2
    have hc := lay_strs hlay
    have hshp : SeqAt.shaped (.list ((S.map (·.name)).map PyData.str)) = true := by
      unfold SeqAt.shaped
      rw [hc]
      have : PyData.depthAll ((S.map (·.name)).map PyData.str) ≤ 0 := depthAll_le0 _
      rw [PyData.depth]
      exact decide_eq_true (by omega)
    refine ⟨_, _, dp_q (.lst h12 (all_strs _)) hc, dp_q (.lst h2 (all_strs _)) hc, hshp, hshp, _, rfl, ?_⟩
    rw [PySem.SeqAt.eqv_refl _ hc]
    refine iteT ?_
    refine ⟨_, rfl, t, dt, _, rfl, e12 _ _ ht, rfl, t, D1, D2, D3, rfl, ⟨dt, e12 _ _ ht⟩, fun L3 hL3 => ?_⟩
    have e3 := Evl.Ex.new (o := .lst [.ref D1, .ref D2, .ref D3]) hL3
    have h3 := upd_same (H := H2) (a := L3) (o := .lst [.ref D1, .ref D2, .ref D3])
    have e13 := e12.trans e3
    refine ⟨_, rfl, u, du, _, rfl, e13 _ _ hu, rfl, u, E1, E2, E3, rfl, ⟨du, e13 _ _ hu⟩, fun L4 hL4 => ?_⟩
    have e4 := Evl.Ex.new (o := .lst [.ref E1, .ref E2, .ref E3]) hL4
    have h4 := upd_same (H := upd H2 L3 (.lst [.ref D1, .ref D2, .ref D3])) (a := L4) (o := .lst [.ref E1, .ref E2, .ref E3])
    have e14 := e13.trans e4
    have h34 := e4 _ _ h3
    generalize upd (upd H2 L3 (.lst [.ref D1, .ref D2, .ref D3])) L4 (.lst [.ref E1, .ref E2, .ref E3]) = H4 at e14 h4 h34
    have hT4 := hT.ext e14
    have hU4 := hU.ext e14
    have hll : S.length = S'.length := by have := congrArg List.length hsh; simpa using this.symm
    have hte : ∀ e ∈ S, ∃ e', ent S' e.name = some e' ∧ e'.ts = e.ts ∧ e'.as = e.as := fun e he => shp_ent hsh (ent_of hT.nn he)
    have q1 : EqV K H4 3 (.ref D1) (.ref E1) := by
      refine .inr (.inr (.inr ⟨D1, E1, _, _, rfl, rfl, hT4.h1, hU4.h1, by rw [dT, dT, List.length_map, List.length_map]; exact hll, fun p hp => ?_⟩))
      obtain ⟨e, he, rfl⟩ := List.mem_map.mp hp
      obtain ⟨e', h', hts, has⟩ := hte e he
      refine ⟨.ref e'.T, by rw [val_dT, h']; rfl, .inr (.inr (.inr ⟨e.T, e'.T, _, _, rfl, rfl, (hT4.h4 e he).1, (hU4.h4 e' (ent_mem h')).1, by rw [kvT, kvT, hts], fun p hp => ?_⟩))⟩
      have hv : ∃ v, valV (kvT e') p.1 = some v ∧ ∃ c, v = .ref c ∧ p.2 = v := by
        have hpe : p ∈ kvT e := hp
        obtain ⟨b1, _, b3⟩ := hrf e he
        rw [show kvT e' = kvT e from by rw [kvT, kvT, hts]]
        obtain ⟨q, hq, rfl⟩ := List.mem_map.mp hpe
        obtain ⟨q0, eq⟩ := one_of b1 hq
        obtain ⟨c, hc⟩ := b3 q hq
        rw [eq] at hq
        cases List.mem_singleton.mp hq
        refine ⟨_, ?_, c, hc, rfl⟩
        rw [kvT, eq]
        exact valV_pos rfl
      obtain ⟨v, hv, c, rfl, hp2⟩ := hv
      exact ⟨_, hv, .inr (.inl ⟨c, hp2, rfl⟩)⟩
    have q2 : EqV K H4 3 (.ref D2) (.ref E2) := by
      refine .inr (.inr (.inr ⟨D2, E2, _, _, rfl, rfl, hT4.h2, hU4.h2, by rw [dA, dA, List.length_map, List.length_map]; exact hll, fun p hp => ?_⟩))
      obtain ⟨e, he, rfl⟩ := List.mem_map.mp hp
      obtain ⟨e', h', hts, has⟩ := hte e he
      refine ⟨.ref e'.A, by rw [val_dA, h']; rfl, .inr (.inr (.inr ⟨e.A, e'.A, _, _, rfl, rfl, (hT4.h4 e he).2, (hU4.h4 e' (ent_mem h')).2, by rw [kvA, kvA, has], fun p hp => ?_⟩))⟩
      obtain ⟨_, b2, _⟩ := hrf e he
      rw [show kvA e' = kvA e from by rw [kvA, kvA, has]]
      obtain ⟨q, hq, rfl⟩ := List.mem_map.mp (show p ∈ kvA e from hp)
      obtain ⟨q0, eq⟩ := one_of b2 hq
      rw [eq] at hq
      cases List.mem_singleton.mp hq
      refine ⟨.str q.2, ?_, .inl ⟨rfl, rfl⟩⟩
      rw [kvA, eq]
      exact valV_pos rfl
    have q3 : EqV K H4 3 (.ref D3) (.ref E3) := by
      refine .inr (.inr (.inr ⟨D3, E3, _, _, rfl, rfl, hT4.h3, hU4.h3, by rw [dR, dR, List.length_map, List.length_map]; exact hll, fun p hp => ?_⟩))
      obtain ⟨e, he, rfl⟩ := List.mem_map.mp hp
      obtain ⟨e', h', hts, has⟩ := hte e he
      exact ⟨.non, by rw [val_dR, h']; rfl, .inl ⟨rfl, rfl⟩⟩
    refine ⟨3, by decide, .inl ⟨L3, L4, _, _, rfl, rfl, SqL.of h34, SqL.of h4, .cons q1 (.cons q2 (.cons q3 .nil))⟩, ?_⟩
    exact hQ _ e14
end
end K06

set_option Elab.async false
set_option linter.all false
set_option maxRecDepth 100000
set_option maxHeartbeats 0
/-! _law_said -/
namespace K06
open PySem PySem.Spec PyProof.Rows L2 EX2 TX LamX
/-- data that can be shown -/
structure ShowD (d : PyData) : Prop where
  s : d.showable = true
  z : d.shown.length ≤ 100000
  p : d.depth ≤ 60
theorem boot_rep : bootBuiltins "repr" = some (.builtin "repr") := by kernel_rfl
abbrev ssaid : Stmt := top 45
abbrev nsaid : List Str := ["_law_call", "e"]
theorem scsaid : FnScope nsaid ["_law_call"] (defScope ssaid) := ⟨rfl, rfl, rfl, by decide +kernel, rfl, by decide +kernel, by decide +kernel⟩
def exTab : List (Str × Str × Str) := [("InvalidName", "given", "name"), ("NameTaken", "given", "taken"), ("UnknownLoader", "given", "loader"), ("InvalidClass", "given", "class"), ("LimitExceeded", "limit", "limit")]
/-- what the clauses do -/
def EchS (K : PySem.W.Frag) (Q : VK) : XK := fun cls d H' =>
  (∃ c fl wd, (c, fl, wd) ∈ exTab ∧ cls = .ref (He.ga K c) ∧ ∃ dd x dt, d = some dd ∧ H' dd = some (.xd [(fl, x)]) ∧ Dq H' x dt ∧ ShowD dt ∧ ∀ L H'', Evl.Ex H' H'' → H'' L = some (.lst [.str wd, .str dt.shown]) → Q (.ref L) H'') ∨
  (cls = .ref (He.ga K "UnknownClass") ∧ ∃ dd l x dt, d = some dd ∧ H' dd = some (.xd [("word", x), ("loader", .str l)]) ∧ Dq H' x dt ∧ ShowD dt ∧ ∀ L H'', Evl.Ex H' H'' → H'' L = some (.lst [.str "none", .str l, .str dt.shown]) → Q (.ref L) H'')
def TTsaid (K : PySem.W.Frag) : (XK → Hp → VK → Prop) → Hp → VK → Prop := fun tl H Q => tl (EchS K Q) H fun _ H1 => ([V.str "done"] : List V).length ≤ sizeLine ∧ ∀ L, H1 L = none → Q (.ref L) (upd H1 L (.lst [.str "done"]))
theorem rs_said {K : PySem.W.Frag} {Q : VK} {H : Hp} {c fl wd : Str} {x : V} {dt : PyData} (hm : (c, fl, wd) ∈ exTab) (hx : Dq H x dt) (hs : ShowD dt) (h : ∀ L H'', Evl.Ex H H'' → H'' L = some (.lst [.str wd, .str dt.shown]) → Q (.ref L) H'') : Rs (EchS K Q) H (He.ga K c) fl x :=
  fun dd H' e hdd => .inl ⟨c, fl, wd, hm, rfl, dd, x, dt, rfl, hdd, hx.ext e, hs, fun L H'' e2 hL => h L H'' (e.trans e2) hL⟩
theorem ru_said {K : PySem.W.Frag} {Q : VK} {H : Hp} {l : Str} {x : V} {dt : PyData} (hx : Dq H x dt) (hs : ShowD dt) (h : ∀ L H'', Evl.Ex H H'' → H'' L = some (.lst [.str "none", .str l, .str dt.shown]) → Q (.ref L) H'') : Ru K (EchS K Q) H (.str l) x :=
  fun dd H' e hdd => .inr ⟨rfl, dd, l, x, dt, rfl, hdd, hx.ext e, hs, fun L H'' e2 hL => h L H'' (e.trans e2) hL⟩
def exs : List Str := ["ClassError", "InvalidName", "InvalidClass", "NameTaken", "UnknownLoader", "UnknownClass", "LimitExceeded"]
def NamesNe (K : PySem.W.Frag) : Prop := (exs.map (He.ga K)).Nodup
theorem NamesNe.ne {K : PySem.W.Frag} (h : NamesNe K) {i j : Nat} {a b : Str} (ha : exs[i]? = some a) (hb : exs[j]? = some b) (hij : i ≠ j) : He.ga K a ≠ He.ga K b := by
  intro e
  have h1 : (exs.map (He.ga K))[i]? = some (He.ga K a) := by rw [List.getElem?_map, ha]; rfl
  have h2 : (exs.map (He.ga K))[j]? = some (He.ga K b) := by rw [List.getElem?_map, hb]; rfl
  obtain ⟨l1, e1⟩ := List.getElem?_eq_some_iff.mp h1
  obtain ⟨l2, e2⟩ := List.getElem?_eq_some_iff.mp h2
  rcases Nat.lt_or_gt_of_ne hij with q | q
  · exact (List.pairwise_iff_getElem.mp h) i j l1 l2 q (e1.trans (e.trans e2.symm))
  · exact (List.pairwise_iff_getElem.mp h) j i l2 l1 q (e2.trans (e.symm.trans e1.symm))
/-- a class that is not the clause's -/
theorem no_of {K : PySem.W.Frag} {C C' B f : Addr} {flds : List Str} (g : ClsG K C B f flds) (h1 : C' ≠ C) (h2 : C' ≠ B) : PySem.W.subIn K (.ref C) (.ref C') = some false :=
  (mro_of g.mro _).trans (by simp [h1, h2, bmE])
theorem said_gives {X : Cx} {g : Addr} {cdg : Value} {q : Str} {k : Nat} (D : TK X.prog X.w X.K X.mg X.base) (NN : NamesNe X.K) (sd : SysD X.base) (hG : X.A.guards = some []) (hr : Room (k + 1) X.A) :
    GivesTo X nsaid "_law_said" (defScope ssaid) g cdg (defBody ssaid) "_law_call" q (TTsaid X.K) := by
  intro f c' s H Q tl act hc h
  have hG' : (X.A.deeper (envOfC "_law_said" (defScope ssaid) s.heap.objs.size g cdg)).guards = some [] := by rw [EX2.guards_deeper]; exact hG
  have hu : (X.A.deeper (envOfC "_law_said" (defScope ssaid) s.heap.objs.size g cdg)).units + 65 < cLine := by have := (hr.deeper (envOfC "_law_said" (defScope ssaid) s.heap.objs.size g cdg)).un; omega
  refine ⟨_, pss_cons (ps_try_manyAsF (X := (cxOf C8.CX0 X.prog X.w X.K X.mg X.base nsaid "_law_said" (defScope ssaid) g cdg X.A X.stack s H C8.E0).nox) (i := 1) (n := "e")
      (tb := fun W D σ H => ∃ Ech : XK, (∀ cls d σ' H', σ'.length = 2 → Ech cls d H' → W cls d σ' H') ∧ σ[0]? = some (some (.ref f)) ∧ H c' = some (CodeO c' q) ∧ tl Ech H fun _ H1 => D.nx σ H1)
      rfl rfl scsaid.nd rfl rfl (fun W pn xe tk _ => ?_)
      (.cons ⟨rfl, by decide, .inl D.iN.hm⟩ (fun a oe cls d pn hz hf => pss_one (ps_ret (pe_lst (pa_cons pe_str (pa_cons (pe_callB (r := rReprW) (call_reprW hG' hu sd) rfl D.gR boot_rep (pa_cons (pe_xf D.iN.g.x (D.iN.g.no _ (List.mem_singleton.mpr rfl)) hz hf (pv 1)) pa_nil)) pa_nil)))))
      (.cons ⟨rfl, by decide, .inl D.nt.hm⟩ (fun a oe cls d pn hz hf => pss_one (ps_ret (pe_lst (pa_cons pe_str (pa_cons (pe_callB (r := rReprW) (call_reprW hG' hu sd) rfl D.gR boot_rep (pa_cons (pe_xf D.nt.g.x (D.nt.g.no _ (List.mem_singleton.mpr rfl)) hz hf (pv 1)) pa_nil)) pa_nil)))))
      (.cons ⟨rfl, by decide, .inl D.un.hm⟩ (fun a oe cls d pn hz hf => pss_one (ps_ret (pe_lst (pa_cons pe_str (pa_cons (pe_callB (r := rReprW) (call_reprW hG' hu sd) rfl D.gR boot_rep (pa_cons (pe_xf D.un.g.x (D.un.g.no _ (List.mem_singleton.mpr rfl)) hz hf (pv 1)) pa_nil)) pa_nil)))))
      (.cons ⟨rfl, by decide, .inl D.ic.hm⟩ (fun a oe cls d pn hz hf => pss_one (ps_ret (pe_lst (pa_cons pe_str (pa_cons (pe_callB (r := rReprW) (call_reprW hG' hu sd) rfl D.gR boot_rep (pa_cons (pe_xf D.ic.g.x (D.ic.g.no _ (List.mem_singleton.mpr rfl)) hz hf (pv 1)) pa_nil)) pa_nil)))))
      (.cons ⟨rfl, by decide, .inl D.le.hm⟩ (fun a oe cls d pn hz hf => pss_one (ps_ret (pe_lst (pa_cons pe_str (pa_cons (pe_callB (r := rReprW) (call_reprW hG' hu sd) rfl D.gR boot_rep (pa_cons (pe_xf D.le.g.x (D.le.g.no _ (List.mem_singleton.mpr rfl)) hz hf (pv 1)) pa_nil)) pa_nil)))))
      (.cons ⟨rfl, by decide, .inl D.uc.hm⟩ (fun a oe cls d pn hz hf => pss_one (ps_ret (pe_lst (pa_cons pe_str (pa_cons (pe_xf D.uc.g.x (D.uc.g.no _ (by simp)) hz hf (pv 1)) (pa_cons (pe_callB (r := rReprW) (call_reprW hG' hu sd) rfl D.gR boot_rep (pa_cons (pe_xf D.uc.g.x (D.uc.g.no _ (by simp)) hz hf (pv 1)) pa_nil)) pa_nil))))))
      (.nil _))))))))
    (pss_one (ps_ret (pe_lst (pa_cons pe_str pa_nil)))), ?_⟩
  · refine ⟨fun pins s' σ H' D I h' => ?_⟩
    obtain ⟨Ech, hW, h1, h2, h3⟩ := h'
    have hp := fun p1 p2 => act _ pn xe Ech p1 p2 (EX2.takes_len tk) (fun cls d σ' H' he hl => hW cls d σ' H' hl he)
    exact (pss_one (ps_expr (hp _ _))).run pins s' σ H' D I ⟨h1, h2, h3⟩
  · refine ⟨EchS X.K Q, fun cls d σ' H' hl he => ?_, rfl, hc, h⟩
    obtain ⟨s0, s1, rfl⟩ : ∃ s0 s1, σ' = [s0, s1] := by
      match σ', hl with
      | [s0, s1], _ => exact ⟨s0, s1, rfl⟩
    have nB : ∀ {i : Nat} {a : Str}, exs[i]? = some a → i ≠ 0 → He.ga X.K a ≠ He.ga X.K "ClassError" := fun h hi => NN.ne h (show exs[0]? = some ("ClassError" : Str) from rfl) hi
    rcases he with ⟨c, fl, wd, hm, rfl, dd, x, dt, rfl, hdd, hdt, hs, hR⟩ | ⟨rfl, dd, l, x, dt, rfl, hdd, hdt, hs, hR⟩
    · simp only [exTab, List.mem_cons, List.not_mem_nil, or_false, Prod.mk.injEq] at hm
      rcases hm with ⟨rfl, rfl, rfl⟩ | ⟨rfl, rfl, rfl⟩ | ⟨rfl, rfl, rfl⟩ | ⟨rfl, rfl, rfl⟩ | ⟨rfl, rfl, rfl⟩
      · refine ⟨true, PySem.W.exm_ref D.iN.g.t.exC D.iN.g.t.hdC D.iN.g.t.tyC D.iN.g.self, fun _ a' ha' => ?_, fun h => nomatch h⟩
        exact ⟨_, rfl, rfl, rfl, dd, _, x, rfl, hdd, rfl, x, dt, rfl, .q hdt, hs.s, Nat.le_trans hs.z (by rw [sizeLine_eq]; decide), hs.p, le_line (by simp), fun R hR' => hR R _ (Evl.Ex.new hR') upd_same⟩
      · refine ⟨false, PySem.W.exm_ref D.iN.g.t.exC D.iN.g.t.hdC D.iN.g.t.tyC (no_of D.nt.g (NN.ne (i := 1) (j := 3) rfl rfl (by decide)) (nB (i := 1) rfl (by decide))), (fun h => nomatch h), fun _ => ?_⟩
        refine ⟨true, PySem.W.exm_ref D.nt.g.t.exC D.nt.g.t.hdC D.nt.g.t.tyC D.nt.g.self, fun _ a' ha' => ?_, fun h => nomatch h⟩
        exact ⟨_, rfl, rfl, rfl, dd, _, x, rfl, hdd, rfl, x, dt, rfl, .q hdt, hs.s, Nat.le_trans hs.z (by rw [sizeLine_eq]; decide), hs.p, le_line (by simp), fun R hR' => hR R _ (Evl.Ex.new hR') upd_same⟩
      · refine ⟨false, PySem.W.exm_ref D.iN.g.t.exC D.iN.g.t.hdC D.iN.g.t.tyC (no_of D.un.g (NN.ne (i := 1) (j := 4) rfl rfl (by decide)) (nB (i := 1) rfl (by decide))), (fun h => nomatch h), fun _ => ?_⟩
        refine ⟨false, PySem.W.exm_ref D.nt.g.t.exC D.nt.g.t.hdC D.nt.g.t.tyC (no_of D.un.g (NN.ne (i := 3) (j := 4) rfl rfl (by decide)) (nB (i := 3) rfl (by decide))), (fun h => nomatch h), fun _ => ?_⟩
        refine ⟨true, PySem.W.exm_ref D.un.g.t.exC D.un.g.t.hdC D.un.g.t.tyC D.un.g.self, fun _ a' ha' => ?_, fun h => nomatch h⟩
        exact ⟨_, rfl, rfl, rfl, dd, _, x, rfl, hdd, rfl, x, dt, rfl, .q hdt, hs.s, Nat.le_trans hs.z (by rw [sizeLine_eq]; decide), hs.p, le_line (by simp), fun R hR' => hR R _ (Evl.Ex.new hR') upd_same⟩
      · refine ⟨false, PySem.W.exm_ref D.iN.g.t.exC D.iN.g.t.hdC D.iN.g.t.tyC (no_of D.ic.g (NN.ne (i := 1) (j := 2) rfl rfl (by decide)) (nB (i := 1) rfl (by decide))), (fun h => nomatch h), fun _ => ?_⟩
        refine ⟨false, PySem.W.exm_ref D.nt.g.t.exC D.nt.g.t.hdC D.nt.g.t.tyC (no_of D.ic.g (NN.ne (i := 3) (j := 2) rfl rfl (by decide)) (nB (i := 3) rfl (by decide))), (fun h => nomatch h), fun _ => ?_⟩
        refine ⟨false, PySem.W.exm_ref D.un.g.t.exC D.un.g.t.hdC D.un.g.t.tyC (no_of D.ic.g (NN.ne (i := 4) (j := 2) rfl rfl (by decide)) (nB (i := 4) rfl (by decide))), (fun h => nomatch h), fun _ => ?_⟩
        refine ⟨true, PySem.W.exm_ref D.ic.g.t.exC D.ic.g.t.hdC D.ic.g.t.tyC D.ic.g.self, fun _ a' ha' => ?_, fun h => nomatch h⟩
        exact ⟨_, rfl, rfl, rfl, dd, _, x, rfl, hdd, rfl, x, dt, rfl, .q hdt, hs.s, Nat.le_trans hs.z (by rw [sizeLine_eq]; decide), hs.p, le_line (by simp), fun R hR' => hR R _ (Evl.Ex.new hR') upd_same⟩
      · refine ⟨false, PySem.W.exm_ref D.iN.g.t.exC D.iN.g.t.hdC D.iN.g.t.tyC (no_of D.le.g (NN.ne (i := 1) (j := 6) rfl rfl (by decide)) (nB (i := 1) rfl (by decide))), (fun h => nomatch h), fun _ => ?_⟩
        refine ⟨false, PySem.W.exm_ref D.nt.g.t.exC D.nt.g.t.hdC D.nt.g.t.tyC (no_of D.le.g (NN.ne (i := 3) (j := 6) rfl rfl (by decide)) (nB (i := 3) rfl (by decide))), (fun h => nomatch h), fun _ => ?_⟩
        refine ⟨false, PySem.W.exm_ref D.un.g.t.exC D.un.g.t.hdC D.un.g.t.tyC (no_of D.le.g (NN.ne (i := 4) (j := 6) rfl rfl (by decide)) (nB (i := 4) rfl (by decide))), (fun h => nomatch h), fun _ => ?_⟩
        refine ⟨false, PySem.W.exm_ref D.ic.g.t.exC D.ic.g.t.hdC D.ic.g.t.tyC (no_of D.le.g (NN.ne (i := 2) (j := 6) rfl rfl (by decide)) (nB (i := 2) rfl (by decide))), (fun h => nomatch h), fun _ => ?_⟩
        refine ⟨true, PySem.W.exm_ref D.le.g.t.exC D.le.g.t.hdC D.le.g.t.tyC D.le.g.self, fun _ a' ha' => ?_, fun h => nomatch h⟩
        exact ⟨_, rfl, rfl, rfl, dd, _, x, rfl, hdd, rfl, x, dt, rfl, .q hdt, hs.s, Nat.le_trans hs.z (by rw [sizeLine_eq]; decide), hs.p, le_line (by simp), fun R hR' => hR R _ (Evl.Ex.new hR') upd_same⟩
    · refine ⟨false, PySem.W.exm_ref D.iN.g.t.exC D.iN.g.t.hdC D.iN.g.t.tyC (no_of D.uc.g (NN.ne (i := 1) (j := 5) rfl rfl (by decide)) (nB (i := 1) rfl (by decide))), (fun h => nomatch h), fun _ => ?_⟩
      refine ⟨false, PySem.W.exm_ref D.nt.g.t.exC D.nt.g.t.hdC D.nt.g.t.tyC (no_of D.uc.g (NN.ne (i := 3) (j := 5) rfl rfl (by decide)) (nB (i := 3) rfl (by decide))), (fun h => nomatch h), fun _ => ?_⟩
      refine ⟨false, PySem.W.exm_ref D.un.g.t.exC D.un.g.t.hdC D.un.g.t.tyC (no_of D.uc.g (NN.ne (i := 4) (j := 5) rfl rfl (by decide)) (nB (i := 4) rfl (by decide))), (fun h => nomatch h), fun _ => ?_⟩
      refine ⟨false, PySem.W.exm_ref D.ic.g.t.exC D.ic.g.t.hdC D.ic.g.t.tyC (no_of D.uc.g (NN.ne (i := 2) (j := 5) rfl rfl (by decide)) (nB (i := 2) rfl (by decide))), (fun h => nomatch h), fun _ => ?_⟩
      refine ⟨false, PySem.W.exm_ref D.le.g.t.exC D.le.g.t.hdC D.le.g.t.tyC (no_of D.uc.g (NN.ne (i := 6) (j := 5) rfl rfl (by decide)) (nB (i := 6) rfl (by decide))), (fun h => nomatch h), fun _ => ?_⟩
      refine ⟨true, PySem.W.exm_ref D.uc.g.t.exC D.uc.g.t.hdC D.uc.g.t.tyC D.uc.g.self, fun _ a' ha' => ?_, fun h => nomatch h⟩
      exact ⟨_, rfl, rfl, rfl, dd, _, .str l, rfl, hdd, rfl, _, rfl, rfl, rfl, dd, _, x, rfl, hdd, rfl, x, dt, rfl, .q hdt, hs.s, Nat.le_trans hs.z (by rw [sizeLine_eq]; decide), hs.p, le_line (by simp), fun R hR' => hR R _ (Evl.Ex.new hR') upd_same⟩
end K06
set_option Elab.async false
set_option linter.all false
set_option maxRecDepth 100000
set_option maxHeartbeats 0
/-! _law_loaders_right -/
namespace EX2
open PySem PySem.Spec PyProof.Rows L2 LamX
section
variable {H H' : Hp}
mutual
theorem Dq.extN (e : ExtN H H') : ∀ {x : V} {d : PyData}, Dq H x d → Dq H' x d
  | _, _, .non => .non
  | _, _, .bl b => .bl b
  | _, _, .int i => .int i
  | _, _, .str x => .str x
  | _, _, .lst q h => .lst (e _ _ q (fun _ z => nomatch z)) (DqAll.extN e h)
  | _, _, .tup q h => .tup (e _ _ q (fun _ z => nomatch z)) (DqAll.extN e h)
  | _, _, .dk q h => .dk (e _ _ q (fun _ z => nomatch z)) (DqAll.extN e h)
theorem DqAll.extN (e : ExtN H H') : ∀ {xs : List V} {ds : List PyData}, DqAll H xs ds → DqAll H' xs ds
  | _, _, .nil => .nil
  | _, _, .cons h t => .cons (Dq.extN e h) (DqAll.extN e t)
end
end
end EX2
namespace K06
open PySem PySem.Spec PyProof.Rows L2 EX2 TX LamX
theorem TbX.extN {C : Addr} {H H' : Hp} {t D1 D2 D3 : Addr} {S : List Ent} (h : TbX C H t D1 D2 D3 S) (e : ExtN H H') : TbX C H' t D1 D2 D3 S := by
  obtain ⟨dt, ht⟩ := h.ob
  exact ⟨⟨dt, e _ _ ht (fun _ z => nomatch z)⟩, e _ _ h.h1 (fun _ z => nomatch z), e _ _ h.h2 (fun _ z => nomatch z), e _ _ h.h3 (fun _ z => nomatch z), fun x hx => ⟨e _ _ (h.h4 x hx).1 (fun _ z => nomatch z), e _ _ (h.h4 x hx).2 (fun _ z => nomatch z)⟩, h.ap, h.nn⟩
def showB (d : PyData) : Bool := d.showable && (decide (d.shown.length ≤ 100000) && decide (d.depth ≤ 60))
theorem ShowD.of {d : PyData} (h : showB d = true) : ShowD d := by
  unfold showB at h
  simp only [Bool.and_eq_true, decide_eq_true_eq] at h
  exact ⟨h.1, h.2.1, h.2.2⟩
theorem shp2 (a z : Str) (ha : PyData.strOk a = true) (hz : PyData.strOk z = true) : SeqAt.shaped (.list [.str a, .str z]) = true ∧ (PyData.list [.str a, .str z]).canLay0 = true := by
  have h2 : (PyData.list [.str a, .str z]).canLay0 = true := by
    simp [PyData.canLay0, PyData.canLayAll0, ha, hz]
  refine ⟨?_, h2⟩
  unfold SeqAt.shaped
  rw [h2]
  simp [PyData.depth, PyData.depthAll]
/-- the name of the lambdas of a def -/
def qOf (d : Str) (s : Stmt) : Str := (envOfC d (defScope s) 0 0 .none).qual ++ "<lambda>"
def letters8 : List Str := ["a", "b", "c", "d", "e", "f", "g", "h"]
/-- the loaders are the first ones of a .. h -/
structure NmS (S : List Ent) : Prop where
  two : 2 ≤ S.length
  eight : S.length ≤ 8
  nm : S.map (·.name) = letters8.take S.length
theorem NmS.no {S : List Ent} (h : NmS S) {z : Str} (hz : z ∉ letters8) : inT S (.str z) = false := by
  cases q : inT S (.str z) with
  | false => rfl
  | true =>
    obtain ⟨e, he⟩ : ∃ e, ent S z = some e := Option.isSome_iff_exists.mp q
    have h1 : z ∈ S.map (·.name) := List.mem_map.mpr ⟨e, ent_mem he, ent_name he⟩
    rw [h.nm] at h1
    exact absurd (List.mem_of_mem_take h1) hz
theorem NmS.a {S : List Ent} (h : NmS S) : Idx S "a" 0 := by
  show (S.map (·.name))[0]? = some ("a" : Str)
  rw [h.nm, List.getElem?_take_of_lt (by have := h.two; omega)]
  rfl
theorem NmS.inA {S : List Ent} (h : NmS S) : inT S (.str "a") = true := by
  obtain ⟨e, he⟩ := ent_idx h.a
  exact inT_ent he
/-- add_loader(name) -/
theorem addl0 {K : PySem.W.Frag} {f : Addr} {fd : FuncData} (F : FunD K "add_loader" "Tables.add_loader" (defArgs (inClass (top 41) 5)) (defBody (inClass (top 41) 5)) (defScope (inClass (top 41) 5)) [] [("rest", .non)] f fd) : ∃ ds, Vals [.non] ds ∧ Binds K fd ["self", "name", "rest"] ds :=
  FunD.binds0 F 2 (by simp) rfl fun D doc pm an cdv ct us ks h1 h2 => match us, ks, h1, h2 with | [_, _], [_], _, _ => ⟨_, _, _, _, _, _, rfl, rfl, rfl⟩
theorem addlK {K : PySem.W.Frag} {f : Addr} {fd : FuncData} (F : FunD K "add_loader" "Tables.add_loader" (defArgs (inClass (top 41) 5)) (defBody (inClass (top 41) 5)) (defScope (inClass (top 41) 5)) [] [("rest", .non)] f fd) :
    ∃ mv : List Value, KBn K fd ["self", "name", "rest"] 2 ["rest"] (fun us ws => us ++ mv ++ ws) (fun vs zs => vs ++ [] ++ zs) :=
  FunD.kbinds0 F 2 ["rest"] [] (fun us mv ws => us ++ mv ++ ws) (by simp) (by simp) (fun r1 r2 r3 => (r1.append r2).append r3)
    fun D doc pm an cdv ct us mv ws h1 h2 h3 => match us, mv, ws, h1, h2, h3 with | [_, _], [], [_], _, _, _ => rfl
theorem ctz0 {K : PySem.W.Frag} {f : Addr} {fd : FuncData} (F : FunD K "__init__" "ClassText.__init__" (defArgs (inClass (top 38) 0)) (defBody (inClass (top 38) 0)) (defScope (inClass (top 38) 0)) [] [("above", .str "top"), ("marks", .ref (kdAt "marks" K)), ("fields", .ref (kdAt "fields" K)), ("methods", .ref (kdAt "methods" K))] f fd) :
    ∃ ds, Vals [.str "top", .ref (kdAt "marks" K), .ref (kdAt "fields" K), .ref (kdAt "methods" K)] ds ∧ Binds K fd ["self", "name", "above", "marks", "fields", "methods"] ds :=
  FunD.binds0 F 2 (by simp) rfl
    fun D doc pm an cdv ct us ks h1 h2 => match us, ks, h1, h2 with | [_, _], [_, _, _, _], _, _ => ⟨_, _, _, _, _, _, rfl, rfl, _, _, _, _, _, _, rfl, rfl, _, _, _, _, _, _, rfl, rfl, _, _, _, _, _, _, rfl, rfl, rfl⟩
def oddN : List PyData := [.none, .str "", .str "A", .int 5, .list [.str "k"], .str "abcdefghi"]
theorem oddN_ok : ∀ d ∈ oddN, nameD d = false ∧ okD d = true ∧ showB d = true ∧ PyData.strOk d.shown = true := by decide +kernel
def oddL : List PyData := [.str "q", .int 5, .list [.str "a"], .str "", .str "new"]
theorem oddL_ok : ∀ d ∈ oddL, (∀ z, d = .str z → z ∉ letters8) ∧ d ≠ .none ∧ okD d = true ∧ showB d = true ∧ PyData.strOk d.shown = true := by
  have h : ∀ d ∈ oddL, okD d = true ∧ showB d = true ∧ PyData.strOk d.shown = true := by decide +kernel
  intro d hd
  refine ⟨?_, ?_, h d hd⟩
  · rintro z rfl
    simp only [oddL, List.mem_cons, List.not_mem_nil, or_false, PyData.str.injEq, reduceCtorEq, false_or] at hd
    rcases hd with rfl | rfl | rfl <;> decide +kernel
  · rintro rfl
    simp [oddL] at hd
theorem inT_no {S : List Ent} (h : NmS S) {d : PyData} (hd : ∀ z, d = .str z → z ∉ letters8) : inT S d = false := by
  cases d with
  | str z => exact h.no (hd z rfl)
  | _ => rfl
theorem shp_names {S S' : List Ent} (h : S'.map shp = S.map shp) : S'.map (·.name) = S.map (·.name) := by
  have := congrArg (List.map Prod.fst) h
  rw [List.map_map, List.map_map] at this
  exact this
theorem shp_len {S S' : List Ent} (h : S'.map shp = S.map shp) : S'.length = S.length := by
  have := congrArg List.length h
  simpa using this
theorem NmS.of {S S' : List Ent} (hS : NmS S) (h : S'.map (·.name) = S.map (·.name)) : NmS S' := by
  have hl : S'.length = S.length := by have := congrArg List.length h; simpa using this
  exact ⟨by rw [hl]; exact hS.two, by rw [hl]; exact hS.eight, by rw [h, hl]; exact hS.nm⟩
theorem shp1 (a : Str) (ha : PyData.strOk a = true) : SeqAt.shaped (.list [.str a]) = true ∧ (PyData.list [.str a]).canLay0 = true := by
  have h2 : (PyData.list [.str a]).canLay0 = true := by
    simp [PyData.canLay0, PyData.canLayAll0, ha]
  refine ⟨?_, h2⟩
  unfold SeqAt.shaped
  rw [h2]
  simp [PyData.depth, PyData.depthAll]
theorem dq1 {H : Hp} {R : Addr} {a : Str} (h : H R = some (.lst [.str a])) : Dq H (.ref R) (.list [.str a]) := .lst h (.cons (.str a) .nil)
theorem ne_same {K : PySem.W.Frag} {H : Hp} {x y : V} {d : PyData} {Q : VK} (hx : Dq H x d) (hy : Dq H y d) (hs : SeqAt.shaped d = true ∧ d.canLay0 = true) (q : Q (.bl false) H) : rNeD K x y H Q := by
  refine ⟨d, d, dp_q hx hs.2, dp_q hy hs.2, hs.1, hs.1, ?_⟩
  rw [PySem.SeqAt.eqv_refl d hs.2]
  exact q
theorem eq_same {K : PySem.W.Frag} {H : Hp} {x y : V} {d : PyData} {Q : VK} (hx : Dq H x d) (hy : Dq H y d) (hs : SeqAt.shaped d = true ∧ d.canLay0 = true) (q : Q (.bl true) H) : rEqD K x y H Q := by
  refine ⟨d, d, dp_q hx hs.2, dp_q hy hs.2, hs.1, hs.1, ?_⟩
  rw [PySem.SeqAt.eqv_refl d hs.2]
  exact q
theorem dq2 {H : Hp} {R : Addr} {a b : Str} (h : H R = some (.lst [.str a, .str b])) : Dq H (.ref R) (.list [.str a, .str b]) := .lst h (.cons (.str a) (.cons (.str b) .nil))
def spLR (K : PySem.W.Frag) (Tb : List (Addr × Str)) : Sp := fun vs H Q _ => ∃ (t D1 D2 D3 : Addr) (S : List Ent), vs = [.ref t, .int (S.length : Nat)] ∧ TbX (He.ga K "Tables") H t D1 D2 D3 S ∧ NmS S ∧ Tabs Tb H ∧ ∀ H', ExtN H H' → Tabs Tb H' → Q (.bl true) H'
section
variable {P : Program} {w : World} {K : PySem.W.Frag} {mg : Str → Option Value} {base : Heap} {f : Addr} {fd : FuncData}
abbrev s_law_loaders_right : Stmt := top 46
abbrev n_law_loaders_right : List Str := ["_law_tables", "_law_many", "_law_odd"]
theorem sc_law_loaders_right : FnScope n_law_loaders_right ["_law_tables", "_law_many"] (defScope s_law_loaders_right) := ⟨rfl, rfl, rfl, by decide +kernel, rfl, by decide +kernel, by decide +kernel⟩
theorem ok_law_loaders_right {cC cT : Addr} {Tb : List (Addr × Str)} (F : FnP K "_law_loaders_right" s_law_loaders_right f fd) (hcd : ∀ cdv, CodeAt K f cdv → cdv = .ref cC) (TB : TabB base mg cC cT) (hT : (cT, qOf "_law_loaders_right" s_law_loaders_right) ∈ Tb) (hTu : ∀ p ∈ Tb, p.1 = cT → p.2 = qOf "_law_loaders_right" s_law_loaders_right) (D : TK P w K mg base) (NN : NamesNe K) (sd : SysD base) (said : ∃ f fd, mg "_law_said" = some (.ref f) ∧ FnP K "_law_said" ssaid f fd) : FnOkG P w K mg base 11 f fd ["_law_tables", "_law_many"] (spLR K Tb) := by
  have T := D.t
  obtain ⟨fS, fdS, gS, FS⟩ := said
  have bS : Binds K fdS ["_law_call"] [] := FS.bindsN fun _ _ _ _ _ _ us hl => match us, hl with | [_], _ => rfl
  obtain ⟨fdm_add_loader, Fm_add_loader⟩ := D.f_add_loader
  have Gm_add_loader := okTables_add_loader (P := P) (w := w) (base := base) Fm_add_loader D
  obtain ⟨dz, vz, bz⟩ := addl0 Fm_add_loader
  obtain ⟨mv, kb⟩ := addlK Fm_add_loader
  obtain ⟨fdm_copy, Fm_copy⟩ := D.f_copy
  have Gm_copy := okTables_copy (P := P) (w := w) (base := base) Fm_copy D
  have bm_copy : Binds K fdm_copy ["self"] [] := FunD.bindsN Fm_copy fun _ _ _ _ _ _ us hl => match us, hl with | [_], _ => rfl
  refine EX2.okGC F sc_law_loaders_right (fun vs H Q E h => ?_) (fun cdv A outer s H vs Q E hc hg hr h => ?_)
  · obtain ⟨t, D1, D2, D3, S, rfl, _⟩ := h
    rfl
  · obtain ⟨t, D1, D2, D3, S, rfl, hT0, hS, hTb, hQ⟩ := h
    obtain rfl := hcd cdv hc
    have hG : (A.deeper (envOfC "_law_loaders_right" (defScope s_law_loaders_right) s.heap.objs.size f (.ref cC))).guards = some [] := by rw [EX2.guards_deeper]; exact hg
    have hu : (A.deeper (envOfC "_law_loaders_right" (defScope s_law_loaders_right) s.heap.objs.size f (.ref cC))).units + 65 < cLine := by have := hr.un; omega
    obtain ⟨oc, od, dV, kV, doc, pm, an, cdR, ct, osl, rfl, lkS, hcS, _⟩ := FS.ex
    refine ⟨_, PSs.nox (pss_cons (ps_for PassesOwn.never rfl (pi_list (pe_lst (pa_cons pe_non (pa_cons pe_str (pa_cons pe_str (pa_cons pe_int (pa_cons (pe_lst (pa_cons pe_str pa_nil)) (pa_cons pe_str pa_nil)))))))) (pg_name (i := 2) sc_law_loaders_right.nd rfl (Or.inr rfl))
        (pss_one (ps_if (pt_cmpR (op_neD hr.units) (pe_lamcall (k := 8) (T := Tb) rfl gS FS.kp lkS hcS bS scsaid rfl (.inl rfl) (said_gives (k := 0) D NN sd hG (hr.mono (by decide))) TB rfl hT hTu hr (lamS_by (sc := defScope s_law_loaders_right) (by decide +kernel)) rfl (fun _ _ _ _ _ => rfl) (fun A outer s H E f c_ hr2 => (pe_methK (n := 1) (pv 0) D.c.cl D.m_add_loader Gm_add_loader (hr2.mono (by decide)) kb (passes_call (takes_of rfl rfl rfl rfl) fun _ _ _ _ h => h) (pa_cons (pv 2) pa_nil) (pk_cons pe_str pk_nil)))) (pe_lst (pa_cons pe_str (pa_cons (pe_callB (r := rReprW) (call_reprW hG hu sd) rfl D.gR boot_rep (pa_cons (pv 2) pa_nil)) pa_nil))) (nomark _))
          (pss_one (ps_ret pe_bl))
          pss_nil)))
      (pss_cons (ps_if (pt_cmpR (op_neD hr.units) (pe_lamcall (k := 8) (T := Tb) rfl gS FS.kp lkS hcS bS scsaid rfl (.inl rfl) (said_gives (k := 0) D NN sd hG (hr.mono (by decide))) TB rfl hT hTu hr (lamS_by (sc := defScope s_law_loaders_right) (by decide +kernel)) rfl (fun _ _ _ _ _ => rfl) (fun A outer s H E f c_ hr2 => (pe_methK (n := 1) (pv 0) D.c.cl D.m_add_loader Gm_add_loader (hr2.mono (by decide)) kb (passes_call (takes_of rfl rfl rfl rfl) fun _ _ _ _ h => h) (pa_cons pe_str pa_nil) (pk_cons pe_str pk_nil)))) (pe_lst (pa_cons pe_str (pa_cons (pe_callB (r := rReprW) (call_reprW hG hu sd) rfl D.gR boot_rep (pa_cons pe_str pa_nil)) pa_nil))) (nomark _))
        (pss_one (ps_ret pe_bl))
        pss_nil)
      (pss_cons (ps_for PassesOwn.never rfl (pi_list (pe_lst (pa_cons pe_str (pa_cons pe_int (pa_cons (pe_lst (pa_cons pe_str pa_nil)) (pa_cons pe_str (pa_cons pe_str pa_nil))))))) (pg_name (i := 2) sc_law_loaders_right.nd rfl (Or.inr rfl))
        (pss_one (ps_if (pt_cmpR (op_neD hr.units) (pe_lamcall (k := 8) (T := Tb) rfl gS FS.kp lkS hcS bS scsaid rfl (.inl rfl) (said_gives (k := 0) D NN sd hG (hr.mono (by decide))) TB rfl hT hTu hr (lamS_by (sc := defScope s_law_loaders_right) (by decide +kernel)) rfl (fun _ _ _ _ _ => rfl) (fun A outer s H E f c_ hr2 => (pe_methK (n := 1) (pv 0) D.c.cl D.m_add_loader Gm_add_loader (hr2.mono (by decide)) kb (passes_call (takes_of rfl rfl rfl rfl) fun _ _ _ _ h => h) (pa_cons pe_str pa_nil) (pk_cons (pv 2) pk_nil)))) (pe_lst (pa_cons pe_str (pa_cons (pe_callB (r := rReprW) (call_reprW hG hu sd) rfl D.gR boot_rep (pa_cons (pv 2) pa_nil)) pa_nil))) (nomark _))
          (pss_one (ps_ret pe_bl))
          pss_nil)))
      (pss_cons (ps_if (pt_cmpR op_lt (pv 1) pe_int (nomark _))
        (pss_one (ps_ret (pe_cmpR (op_eqD hr.units) (pe_lamcall (k := 8) (T := Tb) rfl gS FS.kp lkS hcS bS scsaid rfl (.inl rfl) (said_gives (k := 0) D NN sd hG (hr.mono (by decide))) TB rfl hT hTu hr (lamS_by (sc := defScope s_law_loaders_right) (by decide +kernel)) rfl (fun _ _ _ _ _ => rfl) (fun A outer s H E f c_ hr2 => (pe_meth (pe_meth0 (pv 0) D.c.cl D.m_copy Gm_copy (hr2.mono (by decide)) bm_copy .nil pass0) D.c.cl D.m_add_loader Gm_add_loader (hr2.mono (by decide)) bz vz (passes_call (takes_of rfl rfl rfl rfl) fun _ _ _ _ h => h) (pa_cons pe_str pa_nil)))) (pe_lst (pa_cons pe_str pa_nil)) (nomark _))))
        pss_nil)
      (pss_one (ps_ret (pe_cmpR (op_eqD hr.units) (pe_lamcall (k := 8) (T := Tb) rfl gS FS.kp lkS hcS bS scsaid rfl (.inl rfl) (said_gives (k := 0) D NN sd hG (hr.mono (by decide))) TB rfl hT hTu hr (lamS_by (sc := defScope s_law_loaders_right) (by decide +kernel)) rfl (fun _ _ _ _ _ => rfl) (fun A outer s H E f c_ hr2 => (pe_methK (n := 1) (pv 0) D.c.cl D.m_add_loader Gm_add_loader (hr2.mono (by decide)) kb (passes_call (takes_of rfl rfl rfl rfl) fun _ _ _ _ h => h) (pa_cons pe_str pa_nil) (pk_cons pe_str pk_nil)))) (pe_lst (pa_cons pe_str (pa_cons pe_str pa_nil))) (nomark _)))))))), ?_⟩
    refine ⟨le_line (by simp), fun q1 g1 => ⟨le_line (by simp), fun L hL => ⟨L, rfl, ⟨_, SqL.of upd_same⟩, ?_⟩⟩⟩
    have e1 := Evl.Ex.new (o := .lst [.str "k"]) g1
    have e2 := Evl.Ex.new (o := .lst [.non, .str "", .str "A", .int 5, .ref q1, .str "abcdefghi"]) hL
    have dL : DqAll (upd (upd H q1 (.lst [.str "k"])) L (.lst [.non, .str "", .str "A", .int 5, .ref q1, .str "abcdefghi"])) [.non, .str "", .str "A", .int 5, .ref q1, .str "abcdefghi"] oddN :=
      .cons .non (.cons (.str _) (.cons (.str _) (.cons (.int _) (.cons (.lst (e2 _ _ upd_same) (.cons (.str _) .nil)) (.cons (.str _) .nil)))))
    have hLs : (upd (upd H q1 (.lst [.str "k"])) L (.lst [.non, .str "", .str "A", .int 5, .ref q1, .str "abcdefghi"])) L = some (.lst [.non, .str "", .str "A", .int 5, .ref q1, .str "abcdefghi"]) := upd_same
    have e12 := e1.trans e2
    generalize (upd (upd H q1 (.lst [.str "k"])) L (.lst [.non, .str "", .str "A", .int 5, .ref q1, .str "abcdefghi"])) = HL at dL hLs e12
    generalize ([.non, .str "", .str "A", .int 5, .ref q1, .str "abcdefghi"] : List V) = vs1 at dL hLs
    have hS1000 : S.length < 1000 := by have := hS.eight; omega
    have okq : okD (.str "q") = true := by decide +kernel
    have ntb : ∀ {xs : List V} (ps : Array Value), HO.lst xs ≠ .tbl ps := fun _ z => nomatch z
    refine for_it (walk_list (xs := vs1)) (fun j σ' H' => ExtN H H' ∧ Tabs Tb H' ∧ H' L = some (.lst vs1) ∧ DqAll H' vs1 oddN ∧ ∃ v1, σ' = [some (.ref t), some (.int (S.length : Nat)), v1]) ⟨ExtN.of e12, hTb.ext e12, hLs, dL, none, rfl⟩ (fun j σ H' _ h => SqL.of h.2.2.1) ?_ ?_
    · rintro j y σ _ H3 hj ⟨eN, tb, hL2, dL2, v1, rfl⟩ ⟨rfl, hy⟩
      obtain ⟨d, hd, dy⟩ := dL2.get hy
      obtain ⟨nm, ok, sh, so⟩ := oddN_ok d (List.mem_of_getElem? hd)
      have SD := ShowD.of sh
      refine ⟨tb, fun H4 eN4 tb4 => ?_⟩
      have dy4 := dy.extN eN4
      have hT4 := hT0.extN (eN.trans eN4)
      obtain ⟨dt, ht⟩ := hT4.ob
      refine ⟨_, rfl, t, dt, _, rfl, ht, rfl, _, rfl, rfl, rfl, t, y, .str "q", d, .str "q", D1, D2, D3, S, rfl, hT4, dy4, ok, .str _, okq, hS1000, .inl ⟨nm, rs_said (wd := "name") (by simp [exTab]) dy4 SD fun R H6 e6 hR => ?_⟩⟩
      refine ⟨_, rfl, y, d, rfl, .q (dy4.ext e6), SD.s, Nat.le_trans SD.z (by rw [sizeLine_eq]; decide), SD.p, le_line (by simp), fun R2 hR2 => ?_⟩
      have e7 := Evl.Ex.new (o := .lst [.str "name", .str d.shown]) hR2
      have e67 := e6.trans e7
      refine ne_same (dq2 (e7 _ _ hR)) (dq2 upd_same) (shp2 _ _ (by decide +kernel) so) ⟨_, rfl, ifF rfl ?_⟩
      exact ⟨(eN.trans eN4).trans (ExtN.of e67), tb4.ext e67, e67 _ _ (eN4 _ _ hL2 ntb), (dL2.extN eN4).ext e67, _, rfl⟩
    rintro σ H2 ⟨eN, tb, hL2, dL2, v1, rfl⟩
    clear dL2 hL2 dL hLs
    -- add_loader("a", rest = "q")
    refine ⟨tb, fun H4 eN4 tb4 => ?_⟩
    have hT4 := hT0.extN (eN.trans eN4)
    obtain ⟨dt, ht⟩ := hT4.ob
    have SDa : ShowD (.str "a") := ShowD.of (by decide +kernel)
    refine ⟨_, rfl, t, dt, _, rfl, ht, rfl, rfl, rfl, t, .str "a", .str "q", .str "a", .str "q", D1, D2, D3, S, rfl, hT4, .str _, by decide +kernel, .str _, okq, hS1000, .inr ⟨"a", rfl, by decide +kernel, .inl ⟨hS.inA, rs_said (wd := "taken") (by simp [exTab]) (.str _) SDa fun R H6 e6 hR => ?_⟩⟩⟩
    refine ⟨.str "a", .str "a", rfl, .q (.str _), SDa.s, Nat.le_trans SDa.z (by rw [sizeLine_eq]; decide), SDa.p, le_line (by simp), fun R2 hR2 => ?_⟩
    have e7 := Evl.Ex.new (o := .lst [.str "taken", .str (PyData.str "a").shown]) hR2
    have e67 := e6.trans e7
    refine ne_same (dq2 (e7 _ _ hR)) (dq2 upd_same) (shp2 _ _ (by decide +kernel) (by decide +kernel)) ⟨_, rfl, ifF rfl ?_⟩
    have eN5 := (eN.trans eN4).trans (ExtN.of e67)
    have tb5 := tb4.ext e67
    generalize upd H6 R2 (.lst [.str "taken", .str (PyData.str "a").shown]) = H5 at eN5 tb5
    clear e7 e67 hR hR2 e6 tb4 eN4 eN tb hT4 ht
    -- add_loader("new", rest = ..)
    refine ⟨le_line (by simp), fun q2 g2 => ⟨le_line (by simp), fun L2 hL2 => ⟨L2, rfl, ⟨_, SqL.of upd_same⟩, ?_⟩⟩⟩
    have e1 := Evl.Ex.new (o := .lst [.str "a"]) g2
    have e2 := Evl.Ex.new (o := .lst [.str "q", .int 5, .ref q2, .str "", .str "new"]) hL2
    have dL : DqAll (upd (upd H5 q2 (.lst [.str "a"])) L2 (.lst [.str "q", .int 5, .ref q2, .str "", .str "new"])) [.str "q", .int 5, .ref q2, .str "", .str "new"] oddL :=
      .cons (.str _) (.cons (.int _) (.cons (.lst (e2 _ _ upd_same) (.cons (.str _) .nil)) (.cons (.str _) (.cons (.str _) .nil))))
    have hLs : (upd (upd H5 q2 (.lst [.str "a"])) L2 (.lst [.str "q", .int 5, .ref q2, .str "", .str "new"])) L2 = some (.lst [.str "q", .int 5, .ref q2, .str "", .str "new"]) := upd_same
    have e12 := e1.trans e2
    generalize (upd (upd H5 q2 (.lst [.str "a"])) L2 (.lst [.str "q", .int 5, .ref q2, .str "", .str "new"])) = HL2 at dL hLs e12
    generalize ([.str "q", .int 5, .ref q2, .str "", .str "new"] : List V) = vs2 at dL hLs
    have nnew : inT S (.str "new") = false := hS.no (by decide +kernel)
    have oknew : okD (.str "new") = true := by decide +kernel
    have nmnew : nameD (.str "new") = true := by decide +kernel
    refine for_it (walk_list (xs := vs2)) (fun j σ' H' => ExtN H H' ∧ Tabs Tb H' ∧ H' L2 = some (.lst vs2) ∧ DqAll H' vs2 oddL ∧ ∃ v1, σ' = [some (.ref t), some (.int (S.length : Nat)), v1]) ⟨eN5.trans (ExtN.of e12), tb5.ext e12, hLs, dL, v1, rfl⟩ (fun j σ H' _ h => SqL.of h.2.2.1) ?_ ?_
    · rintro j y σ _ H3 hj ⟨eN, tb, hL2, dL2, v1, rfl⟩ ⟨rfl, hy⟩
      obtain ⟨d, hd, dy⟩ := dL2.get hy
      obtain ⟨nz, nn, ok, sh, so⟩ := oddL_ok d (List.mem_of_getElem? hd)
      have SD := ShowD.of sh
      refine ⟨tb, fun H4 eN4 tb4 => ?_⟩
      have dy4 := dy.extN eN4
      have hT4 := hT0.extN (eN.trans eN4)
      obtain ⟨dt, ht⟩ := hT4.ob
      have hy0 : y ≠ .non := by rintro rfl; cases dy4; exact nn rfl
      refine ⟨_, rfl, t, dt, _, rfl, ht, rfl, _, rfl, rfl, rfl, t, .str "new", y, .str "new", d, D1, D2, D3, S, rfl, hT4, .str _, oknew, dy4, ok, hS1000, .inr ⟨"new", rfl, nmnew, .inr ⟨nnew, .inl ⟨hy0, inT_no hS nz, rs_said (wd := "loader") (by simp [exTab]) dy4 SD fun R H6 e6 hR => ?_⟩⟩⟩⟩
      refine ⟨_, rfl, y, d, rfl, .q (dy4.ext e6), SD.s, Nat.le_trans SD.z (by rw [sizeLine_eq]; decide), SD.p, le_line (by simp), fun R2 hR2 => ?_⟩
      have e7 := Evl.Ex.new (o := .lst [.str "loader", .str d.shown]) hR2
      have e67 := e6.trans e7
      refine ne_same (dq2 (e7 _ _ hR)) (dq2 upd_same) (shp2 _ _ (by decide +kernel) so) ⟨_, rfl, ifF rfl ?_⟩
      exact ⟨(eN.trans eN4).trans (ExtN.of e67), tb4.ext e67, e67 _ _ (eN4 _ _ hL2 ntb), (dL2.extN eN4).ext e67, _, rfl⟩
    rintro σ H2 ⟨eN, tb, hL2, dL2, v2, rfl⟩
    clear dL2 hL2 dL hLs
    refine ⟨_, rfl, _, _, rfl, rfl, _, rfl, ?_⟩
    by_cases h8 : S.length < 8
    · refine ifT (decide_eq_true (by omega)) ?_
      refine ⟨tb, fun H4 eN4 tb4 => ?_⟩
      have hT4 := hT0.extN (eN.trans eN4)
      obtain ⟨dt, ht⟩ := hT4.ob
      refine ⟨_, rfl, t, dt, _, rfl, ht, rfl, t, D1, D2, D3, S, rfl, hT4, hS1000, fun t' E1 E2 E3 S' H5 e5 hf hT5 hsh => ?_⟩
      obtain ⟨dt', ht'⟩ := hT5.ob
      have hl' := shp_len hsh
      have hS' := hS.of (shp_names hsh)
      refine ⟨t', dt', _, rfl, ht', rfl, t', .str "new", .non, .str "new", .none, E1, E2, E3, S', rfl, hT5, .str _, oknew, .non, rfl, by omega, .inr ⟨"new", rfl, nmnew, .inr ⟨hS'.no (by decide +kernel), .inr ⟨.inl rfl, .inr ⟨by omega, rfl, fun Ta Aa H6 _ _ hT6 k6 => ?_⟩⟩⟩⟩⟩
      have e46 : Evl.Ex H4 H6 := fun b o hb => k6 b o (by rintro rfl; rw [hf.d1] at hb; cases hb) (by rintro rfl; rw [hf.d2] at hb; cases hb) (by rintro rfl; rw [hf.d3] at hb; cases hb) (e5 _ _ hb)
      refine ⟨le_line (by simp), fun R hR => ⟨le_line (by simp), fun R2 hR2 => ?_⟩⟩
      have e7 := Evl.Ex.new (o := .lst [.str "done"]) hR
      have e8 := Evl.Ex.new (o := .lst [.str "done"]) hR2
      refine eq_same (dq1 (e8 _ _ upd_same)) (dq1 upd_same) (shp1 _ (by decide +kernel)) ?_
      have e48 := (e46.trans e7).trans e8
      exact hQ _ ((eN.trans eN4).trans (ExtN.of e48)) (tb4.ext e48)
    · refine ifF (decide_eq_false (by omega)) ?_
      refine ⟨tb, fun H4 eN4 tb4 => ?_⟩
      have hT4 := hT0.extN (eN.trans eN4)
      obtain ⟨dt, ht⟩ := hT4.ob
      have SD8 : ShowD (.int 8) := ShowD.of (by decide +kernel)
      refine ⟨_, rfl, t, dt, _, rfl, ht, rfl, rfl, rfl, t, .str "new", .str "a", .str "new", .str "a", D1, D2, D3, S, rfl, hT4, .str _, oknew, .str _, by decide +kernel, hS1000, .inr ⟨"new", rfl, nmnew, .inr ⟨nnew, .inr ⟨.inr hS.inA, .inl ⟨by omega, rs_said (wd := "limit") (by simp [exTab]) (.int 8) SD8 fun R H6 e6 hR => ?_⟩⟩⟩⟩⟩
      refine ⟨le_line (by simp), fun R2 hR2 => ?_⟩
      have e7 := Evl.Ex.new (o := .lst [.str "limit", .str "8"]) hR2
      have e67 := e6.trans e7
      rw [show (PyData.int 8).shown = ("8" : Str) from by decide +kernel] at hR
      refine eq_same (dq2 (e7 _ _ hR)) (dq2 upd_same) (shp2 _ _ (by decide +kernel) (by decide +kernel)) ?_
      exact hQ _ ((eN.trans eN4).trans (ExtN.of e67)) (tb4.ext e67)
end
end K06

set_option Elab.async false
set_option linter.all false
set_option maxRecDepth 100000
set_option maxHeartbeats 0
/-! _law_parts_right -/
namespace K06
open PySem PySem.Spec PyProof.Rows L2 EX2 TX LamX
def oddP : List PyData := [.none, .str "q", .int 5, .list [.str "a"], .dict [(.str "a", .int 1)]]
theorem oddP_ok : ∀ d ∈ oddP, (∀ z, d = .str z → z ∉ letters8) ∧ okD d = true ∧ showB d = true ∧ PyData.strOk d.shown = true := by
  have h : ∀ d ∈ oddP, okD d = true ∧ showB d = true ∧ PyData.strOk d.shown = true := by decide +kernel
  intro d hd
  refine ⟨?_, h d hd⟩
  rintro z rfl
  simp only [oddP, List.mem_cons, List.not_mem_nil, or_false, PyData.str.injEq, reduceCtorEq, false_or] at hd
  rcases hd with rfl
  decide +kernel
def oddC : List PyData := [.none, .str "x", .int 5, .tuple [.str "x", .str "top"]]
theorem oddC_ok : ∀ d ∈ oddC, tyD d ∈ (["NoneType", "str", "int", "tuple"] : List String) ∧ showB d = true ∧ PyData.strOk d.shown = true := by decide +kernel
def oddT : List PyData := [.none, .str "", .str "A", .int 5, .list [.str "x"], .str "x[]"]
theorem oddT_ok : ∀ d ∈ oddT, nameD d = false ∧ cnD d = false ∧ okD d = true ∧ showB d = true ∧ PyData.strOk d.shown = true := by decide +kernel
theorem InsK.of {K : PySem.W.Frag} {C : Addr} (h : InsK K C) {d : PyData} (hd : tyD d ∈ (["NoneType", "str", "int", "tuple"] : List String)) : PySem.W.kitOne K (.type (tyD d)) (.ref C) = some false := by
  simp only [List.mem_cons, List.not_mem_nil, or_false] at hd
  rcases hd with e | e | e | e <;> rw [e]
  · exact h.kn
  · exact h.ks
  · exact h.ki
  · exact h.kt
theorem shp3 (a b z : Str) (ha : PyData.strOk a = true) (hb : PyData.strOk b = true) (hz : PyData.strOk z = true) : SeqAt.shaped (.list [.str a, .str b, .str z]) = true ∧ (PyData.list [.str a, .str b, .str z]).canLay0 = true := by
  have h2 : (PyData.list [.str a, .str b, .str z]).canLay0 = true := by
    simp [PyData.canLay0, PyData.canLayAll0, ha, hb, hz]
  refine ⟨?_, h2⟩
  unfold SeqAt.shaped
  rw [h2]
  simp [PyData.depth, PyData.depthAll]
theorem dq3 {H : Hp} {R : Addr} {a b c : Str} (h : H R = some (.lst [.str a, .str b, .str c])) : Dq H (.ref R) (.list [.str a, .str b, .str c]) := .lst h (.cons (.str a) (.cons (.str b) (.cons (.str c) .nil)))
theorem shpL (n : Nat) (a z : Str) (ha : PyData.strOk a = true) (hz : PyData.strOk z = true) : SeqAt.shaped (.list (List.replicate n (.list [.str a, .str z]))) = true ∧ (PyData.list (List.replicate n (.list [.str a, .str z]))).canLay0 = true := by
  have h1 := (shp2 a z ha hz).2
  have h2 : ∀ m : Nat, PyData.canLayAll0 (List.replicate m (PyData.list [.str a, .str z])) = true := by
    intro m
    induction m with
    | zero => rfl
    | succ m ih => rw [List.replicate_succ, PyData.canLayAll0, h1, ih]; rfl
  have h3 : ∀ m : Nat, PyData.depthAll (List.replicate m (PyData.list [.str a, .str z])) ≤ 1 := by
    intro m
    induction m with
    | zero => exact Nat.zero_le _
    | succ m ih => rw [List.replicate_succ, PyData.depthAll]; exact Nat.max_le.mpr ⟨by simp [PyData.depth, PyData.depthAll], ih⟩
  have h4 : (PyData.list (List.replicate n (.list [.str a, .str z]))).canLay0 = true := h2 n
  refine ⟨?_, h4⟩
  unfold SeqAt.shaped
  rw [h4, PyData.depth]
  have := h3 n
  exact decide_eq_true (by omega)
theorem dqRep {H : Hp} {a z : Str} : ∀ {rs : List V}, (∀ r ∈ rs, ∃ R, r = V.ref R ∧ H R = some (.lst [.str a, .str z])) → DqAll H rs (List.replicate rs.length (.list [.str a, .str z]))
  | [], _ => .nil
  | r :: rs, h => by
    obtain ⟨R, rfl, hR⟩ := h _ List.mem_cons_self
    rw [List.length_cons, List.replicate_succ]
    exact .cons (dq2 hR) (dqRep fun r hr => h r (List.mem_cons_of_mem _ hr))
def spPR (K : PySem.W.Frag) (Tb : List (Addr × Str)) : Sp := fun vs H Q _ => ∃ (t D1 D2 D3 : Addr) (S : List Ent) (la : Str) (il : Nat), vs = [.ref t, .str la] ∧ TbX (He.ga K "Tables") H t D1 D2 D3 S ∧ NmS S ∧ (∀ e ∈ S, e.ts = [] ∧ e.as = []) ∧ Idx S la il ∧ Tabs Tb H ∧ ∀ H', ExtN H H' → Tabs Tb H' → Q (.bl true) H'
theorem NmS.ok {S : List Ent} (h : NmS S) {z : Str} {i : Nat} (hz : Idx S z i) : okD (.str z) = true ∧ showB (.str z) = true ∧ PyData.strOk (PyData.str z).shown = true ∧ z ∈ letters8 := by
  have h1 : z ∈ S.map (·.name) := List.mem_of_getElem? hz
  rw [h.nm] at h1
  have h2 := List.mem_of_mem_take h1
  have : ∀ z ∈ letters8, okD (.str z) = true ∧ showB (.str z) = true ∧ PyData.strOk (PyData.str z).shown = true := by decide +kernel
  obtain ⟨a, b, c⟩ := this z h2
  exact ⟨a, b, c, h2⟩
theorem at_new {H : Hp} {a : Addr} (_ : H a = none) (o : HO) : upd H a o a = some o := upd_same
section
variable {P : Program} {w : World} {K : PySem.W.Frag} {mg : Str → Option Value} {base : Heap} {f : Addr} {fd : FuncData}
abbrev s_law_parts_right : Stmt := top 47
abbrev n_law_parts_right : List Str := ["_law_tables", "_law_last", "_law_odd", "_law_told"]
theorem sc_law_parts_right : FnScope n_law_parts_right ["_law_tables", "_law_last"] (defScope s_law_parts_right) := ⟨rfl, rfl, rfl, by decide +kernel, rfl, by decide +kernel, by decide +kernel⟩
theorem ok_law_parts_right {cC cT : Addr} {Tb : List (Addr × Str)} (F : FnP K "_law_parts_right" s_law_parts_right f fd) (hcd : ∀ cdv, CodeAt K f cdv → cdv = .ref cC) (TB : TabB base mg cC cT) (hT : (cT, qOf "_law_parts_right" s_law_parts_right) ∈ Tb) (hTu : ∀ p ∈ Tb, p.1 = cT → p.2 = qOf "_law_parts_right" s_law_parts_right) (D : TK P w K mg base) (NN : NamesNe K) (sd : SysD base) (said : ∃ f fd, mg "_law_said" = some (.ref f) ∧ FnP K "_law_said" ssaid f fd) : FnOkG P w K mg base 11 f fd ["_law_tables", "_law_last"] (spPR K Tb) := by
  have T := D.t
  obtain ⟨fS, fdS, gS, FS⟩ := said
  have bS : Binds K fdS ["_law_call"] [] := FS.bindsN fun _ _ _ _ _ _ us hl => match us, hl with | [_], _ => rfl
  obtain ⟨fdm_has, Fm_has⟩ := D.f___contains__
  have Gm_has := okTables___contains__ (P := P) (w := w) (base := base) Fm_has D
  have bm_has : Binds K fdm_has ["self", "obj"] [] := FunD.bindsN Fm_has fun _ _ _ _ _ _ us hl => match us, hl with | [_, _], _ => rfl
  obtain ⟨fdl_has, Fl_has⟩ := D.fl___contains__
  have Gl_has := okLoader___contains__ (P := P) (w := w) (base := base) Fl_has D
  have bl_has : Binds K fdl_has ["self", "obj"] [] := FunD.bindsN Fl_has fun _ _ _ _ _ _ us hl => match us, hl with | [_, _], _ => rfl
  obtain ⟨fdm_add_class, Fm_add_class⟩ := D.f_add_class
  have Gm_add_class := okTables_add_class (P := P) (w := w) (base := base) Fm_add_class D
  have bm_add_class : Binds K fdm_add_class ["self", "loader", "text"] [] := FunD.bindsN Fm_add_class fun _ _ _ _ _ _ us hl => match us, hl with | [_, _, _], _ => rfl
  obtain ⟨fdm_ask, Fm_ask⟩ := D.f_ask
  have Gm_ask := okTables_ask (P := P) (w := w) (base := base) Fm_ask D
  have bm_ask : Binds K fdm_ask ["self", "loader", "name", "other"] [] := FunD.bindsN Fm_ask fun _ _ _ _ _ _ us hl => match us, hl with | [_, _, _, _], _ => rfl
  obtain ⟨fdm_way, Fm_way⟩ := D.f_way
  have Gm_way := okTables_way (P := P) (w := w) (base := base) Fm_way D
  have bm_way : Binds K fdm_way ["self", "loader", "name"] [] := FunD.bindsN Fm_way fun _ _ _ _ _ _ us hl => match us, hl with | [_, _, _], _ => rfl
  obtain ⟨fdm_identity, Fm_identity⟩ := D.f_identity
  have Gm_identity := okTables_identity (P := P) (w := w) (base := base) Fm_identity D
  have bm_identity : Binds K fdm_identity ["self", "loader", "name"] [] := FunD.bindsN Fm_identity fun _ _ _ _ _ _ us hl => match us, hl with | [_, _, _], _ => rfl
  obtain ⟨fdm_text, Fm_text⟩ := D.f_text
  have Gm_text := okTables_text (P := P) (w := w) (base := base) Fm_text D
  have bm_text : Binds K fdm_text ["self", "loader", "name"] [] := FunD.bindsN Fm_text fun _ _ _ _ _ _ us hl => match us, hl with | [_, _, _], _ => rfl
  obtain ⟨fdm___getitem__, Fm___getitem__⟩ := D.f___getitem__
  have Gm___getitem__ := okTables___getitem__ (P := P) (w := w) (base := base) Fm___getitem__ D
  have bm___getitem__ : Binds K fdm___getitem__ ["self", "name"] [] := FunD.bindsN Fm___getitem__ fun _ _ _ _ _ _ us hl => match us, hl with | [_, _], _ => rfl
  obtain ⟨fdl_g, Fl___getitem__⟩ := D.fl___getitem__
  have Gl_g := okLoader___getitem__ (P := P) (w := w) (base := base) Fl___getitem__ D
  have bl_g : Binds K fdl_g ["self", "name"] [] := FunD.bindsN Fl___getitem__ fun _ _ _ _ _ _ us hl => match us, hl with | [_, _], _ => rfl
  refine EX2.okGC F sc_law_parts_right (fun vs H Q E h => ?_) (fun cdv A outer s H vs Q E hc hg hr h => ?_)
  · obtain ⟨t, D1, D2, D3, S, la, il, rfl, _⟩ := h
    rfl
  · obtain ⟨t, D1, D2, D3, S, la, il, rfl, hT0, hS, hE, hla, hTb, hQ⟩ := h
    obtain rfl := hcd cdv hc
    have hG : (A.deeper (envOfC "_law_parts_right" (defScope s_law_parts_right) s.heap.objs.size f (.ref cC))).guards = some [] := by rw [EX2.guards_deeper]; exact hg
    have hu : (A.deeper (envOfC "_law_parts_right" (defScope s_law_parts_right) s.heap.objs.size f (.ref cC))).units + 65 < cLine := by have := hr.un; omega
    obtain ⟨oc, od, dV, kV, doc, pm, an, cdR, ct, osl, rfl, lkS, hcS, _⟩ := FS.ex
    refine ⟨_, PSs.nox (pss_cons (ps_for PassesOwn.never rfl (pi_list (pe_lst (pa_cons pe_non (pa_cons pe_str (pa_cons pe_int (pa_cons (pe_lst (pa_cons pe_str pa_nil)) (pa_cons (pe_disp (pps_cons pe_str pe_int pps_nil) rfl rfl (fun z => by cases z) (by decide)) pa_nil))))))) (pg_name (i := 2) sc_law_parts_right.nd rfl (Or.inr rfl))
        (pss_cons (ps_set (i := 3) sc_law_parts_right.nd rfl (Or.inl rfl) (pe_lst (pa_cons (pe_lamcall (k := 8) (T := Tb) rfl gS FS.kp lkS hcS bS scsaid rfl (.inl rfl) (said_gives (k := 0) D NN sd hG (hr.mono (by decide))) TB rfl hT hTu hr (lamS_by (sc := defScope s_law_parts_right) (by decide +kernel)) rfl (fun _ _ _ _ _ => rfl) (fun A outer s H E f c_ hr2 => (pe_meth (pv 0) D.c.cl D.m_add_class Gm_add_class (hr2.mono (by decide)) bm_add_class .nil (passes_call (takes_of rfl rfl rfl rfl) fun _ _ _ _ h => h) (pa_cons (pv 2) (pa_cons pe_non pa_nil))))) (pa_cons (pe_lamcall (k := 8) (T := Tb) rfl gS FS.kp lkS hcS bS scsaid rfl (.inl rfl) (said_gives (k := 0) D NN sd hG (hr.mono (by decide))) TB rfl hT hTu hr (lamS_by (sc := defScope s_law_parts_right) (by decide +kernel)) rfl (fun _ _ _ _ _ => rfl) (fun A outer s H E f c_ hr2 => (pe_meth (pv 0) D.c.cl D.m_ask Gm_ask (hr2.mono (by decide)) bm_ask .nil (passes_call (takes_of rfl rfl rfl rfl) fun _ _ _ _ h => h) (pa_cons (pv 2) (pa_cons pe_non (pa_cons pe_non pa_nil)))))) pa_nil))))
        (pss_cons (ps_set (i := 3) sc_law_parts_right.nd rfl (Or.inl rfl) (pe_op op_cat (pv 3) (pe_lst (pa_cons (pe_lamcall (k := 8) (T := Tb) rfl gS FS.kp lkS hcS bS scsaid rfl (.inl rfl) (said_gives (k := 0) D NN sd hG (hr.mono (by decide))) TB rfl hT hTu hr (lamS_by (sc := defScope s_law_parts_right) (by decide +kernel)) rfl (fun _ _ _ _ _ => rfl) (fun A outer s H E f c_ hr2 => (pe_meth (pv 0) D.c.cl D.m_way Gm_way (hr2.mono (by decide)) bm_way .nil (passes_call (takes_of rfl rfl rfl rfl) fun _ _ _ _ h => h) (pa_cons (pv 2) (pa_cons pe_non pa_nil))))) (pa_cons (pe_lamcall (k := 8) (T := Tb) rfl gS FS.kp lkS hcS bS scsaid rfl (.inl rfl) (said_gives (k := 0) D NN sd hG (hr.mono (by decide))) TB rfl hT hTu hr (lamS_by (sc := defScope s_law_parts_right) (by decide +kernel)) rfl (fun _ _ _ _ _ => rfl) (fun A outer s H E f c_ hr2 => (pe_meth (pv 0) D.c.cl D.m_identity Gm_identity (hr2.mono (by decide)) bm_identity .nil (passes_call (takes_of rfl rfl rfl rfl) fun _ _ _ _ h => h) (pa_cons (pv 2) (pa_cons pe_non pa_nil))))) pa_nil)))))
        (pss_cons (ps_set (i := 3) sc_law_parts_right.nd rfl (Or.inl rfl) (pe_op op_cat (pv 3) (pe_lst (pa_cons (pe_lamcall (k := 8) (T := Tb) rfl gS FS.kp lkS hcS bS scsaid rfl (.inl rfl) (said_gives (k := 0) D NN sd hG (hr.mono (by decide))) TB rfl hT hTu hr (lamS_by (sc := defScope s_law_parts_right) (by decide +kernel)) rfl (fun _ _ _ _ _ => rfl) (fun A outer s H E f c_ hr2 => (pe_meth (pv 0) D.c.cl D.m_text Gm_text (hr2.mono (by decide)) bm_text .nil (passes_call (takes_of rfl rfl rfl rfl) fun _ _ _ _ h => h) (pa_cons (pv 2) (pa_cons pe_non pa_nil))))) (pa_cons (pe_lamcall (k := 8) (T := Tb) rfl gS FS.kp lkS hcS bS scsaid rfl (.inl rfl) (said_gives (k := 0) D NN sd hG (hr.mono (by decide))) TB rfl hT hTu hr (lamS_by (sc := defScope s_law_parts_right) (by decide +kernel)) rfl (fun _ _ _ _ _ => rfl) (fun A outer s H E f c_ hr2 => (pe_itemI (pv 0) (pv 2) Gm___getitem__ D.m___getitem__.at_ D.git D.m___getitem__.fn bm___getitem__ (hr2.mono (by decide)) (passes_call (takes_of rfl rfl rfl rfl) fun _ _ _ _ h => h)))) pa_nil)))))
        (pss_one (ps_if (PW.pt (pw_or (pt_cmpR (op_neD hr.units) (pv 3) (pe_op op_rep (pe_lst (pa_cons (pe_lst (pa_cons pe_str (pa_cons (pe_callB (r := rReprW) (call_reprW hG hu sd) rfl D.gR boot_rep (pa_cons (pv 2) pa_nil)) pa_nil))) pa_nil)) pe_int) (nomark _)) (pw_or1 (pt_cmpR (op_inI Gm_has D.m___contains__.at_ D.m___contains__.fn bm_has (hr.mono (by decide)) pass0) (pv 2) (pv 0) (by rfl)))))
          (pss_one (ps_ret pe_bl))
          pss_nil))))))
      (pss_cons (ps_for PassesOwn.never rfl (pi_list (pe_lst (pa_cons pe_non (pa_cons pe_str (pa_cons pe_int (pa_cons (pe_tup (pa_cons pe_str (pa_cons pe_str pa_nil))) pa_nil)))))) (pg_name (i := 2) sc_law_parts_right.nd rfl (Or.inr rfl))
        (pss_one (ps_if (pt_cmpR (op_neD hr.units) (pe_lamcall (k := 8) (T := Tb) rfl gS FS.kp lkS hcS bS scsaid rfl (.inl rfl) (said_gives (k := 0) D NN sd hG (hr.mono (by decide))) TB rfl hT hTu hr (lamS_by (sc := defScope s_law_parts_right) (by decide +kernel)) rfl (fun _ _ _ _ _ => rfl) (fun A outer s H E f c_ hr2 => (pe_meth (pv 0) D.c.cl D.m_add_class Gm_add_class (hr2.mono (by decide)) bm_add_class .nil (passes_call (takes_of rfl rfl rfl rfl) fun _ _ _ _ h => h) (pa_cons pe_str (pa_cons (pv 2) pa_nil))))) (pe_lst (pa_cons pe_str (pa_cons (pe_callB (r := rReprW) (call_reprW hG hu sd) rfl D.gR boot_rep (pa_cons (pv 2) pa_nil)) pa_nil))) (nomark _))
          (pss_one (ps_ret pe_bl))
          pss_nil)))
      (pss_cons (ps_for PassesOwn.never rfl (pi_list (pe_lst (pa_cons pe_non (pa_cons pe_str (pa_cons pe_str (pa_cons pe_int (pa_cons (pe_lst (pa_cons pe_str pa_nil)) (pa_cons pe_str pa_nil)))))))) (pg_name (i := 2) sc_law_parts_right.nd rfl (Or.inr rfl))
        (pss_cons (ps_set (i := 3) sc_law_parts_right.nd rfl (Or.inl rfl) (pe_lst (pa_cons (pe_lamcall (k := 8) (T := Tb) rfl gS FS.kp lkS hcS bS scsaid rfl (.inl rfl) (said_gives (k := 0) D NN sd hG (hr.mono (by decide))) TB rfl hT hTu hr (lamS_by (sc := defScope s_law_parts_right) (by decide +kernel)) rfl (fun _ _ _ _ _ => rfl) (fun A outer s H E f c_ hr2 => (pe_meth (pv 0) D.c.cl D.m_ask Gm_ask (hr2.mono (by decide)) bm_ask .nil (passes_call (takes_of rfl rfl rfl rfl) fun _ _ _ _ h => h) (pa_cons (pv 1) (pa_cons (pv 2) (pa_cons pe_str pa_nil)))))) (pa_cons (pe_lamcall (k := 8) (T := Tb) rfl gS FS.kp lkS hcS bS scsaid rfl (.inl rfl) (said_gives (k := 0) D NN sd hG (hr.mono (by decide))) TB rfl hT hTu hr (lamS_by (sc := defScope s_law_parts_right) (by decide +kernel)) rfl (fun _ _ _ _ _ => rfl) (fun A outer s H E f c_ hr2 => (pe_meth (pv 0) D.c.cl D.m_way Gm_way (hr2.mono (by decide)) bm_way .nil (passes_call (takes_of rfl rfl rfl rfl) fun _ _ _ _ h => h) (pa_cons pe_str (pa_cons (pv 2) pa_nil))))) pa_nil))))
        (pss_cons (ps_set (i := 3) sc_law_parts_right.nd rfl (Or.inl rfl) (pe_op op_cat (pv 3) (pe_lst (pa_cons (pe_lamcall (k := 8) (T := Tb) rfl gS FS.kp lkS hcS bS scsaid rfl (.inl rfl) (said_gives (k := 0) D NN sd hG (hr.mono (by decide))) TB rfl hT hTu hr (lamS_by (sc := defScope s_law_parts_right) (by decide +kernel)) rfl (fun _ _ _ _ _ => rfl) (fun A outer s H E f c_ hr2 => (pe_meth (pv 0) D.c.cl D.m_identity Gm_identity (hr2.mono (by decide)) bm_identity .nil (passes_call (takes_of rfl rfl rfl rfl) fun _ _ _ _ h => h) (pa_cons pe_str (pa_cons (pv 2) pa_nil))))) (pa_cons (pe_lamcall (k := 8) (T := Tb) rfl gS FS.kp lkS hcS bS scsaid rfl (.inl rfl) (said_gives (k := 0) D NN sd hG (hr.mono (by decide))) TB rfl hT hTu hr (lamS_by (sc := defScope s_law_parts_right) (by decide +kernel)) rfl (fun _ _ _ _ _ => rfl) (fun A outer s H E f c_ hr2 => (pe_itemI (pe_itemI (pv 0) pe_str Gm___getitem__ D.m___getitem__.at_ D.git D.m___getitem__.fn bm___getitem__ (hr2.mono (by decide)) (passes_call (takes_of rfl rfl rfl rfl) fun _ _ _ _ h => h)) (pv 2) Gl_g D.l___getitem__.at_ D.giL D.l___getitem__.fn bl_g (hr2.mono (by decide)) (passes_call (takes_of rfl rfl rfl rfl) fun _ _ _ _ h => h)))) pa_nil)))))
        (pss_cons (ps_if (PW.pt (pw_or (pt_cmpR (op_neD hr.units) (pv 3) (pe_op op_rep (pe_lst (pa_cons (pe_lst (pa_cons pe_str (pa_cons (pe_callB (r := rReprW) (call_reprW hG hu sd) rfl D.gR boot_rep (pa_cons (pv 2) pa_nil)) pa_nil))) pa_nil)) pe_int) (nomark _)) (pw_or1 (pt_cmpR (op_inI Gl_has D.l___contains__.at_ D.l___contains__.fn bl_has (hr.mono (by decide)) pass0) (pv 2) (pe_itemI (pv 0) pe_str Gm___getitem__ D.m___getitem__.at_ D.git D.m___getitem__.fn bm___getitem__ (hr.mono (by decide)) passL) (by rfl)))))
          (pss_one (ps_ret pe_bl))
          pss_nil)
        (pss_one (ps_if (pt_cmpR (op_neD hr.units) (pe_lamcall (k := 8) (T := Tb) rfl gS FS.kp lkS hcS bS scsaid rfl (.inl rfl) (said_gives (k := 0) D NN sd hG (hr.mono (by decide))) TB rfl hT hTu hr (lamS_by (sc := defScope s_law_parts_right) (by decide +kernel)) rfl (fun _ _ _ _ _ => rfl) (fun A outer s H E f c_ hr2 => (pe_meth (pv 0) D.c.cl D.m_text Gm_text (hr2.mono (by decide)) bm_text .nil (passes_call (takes_of rfl rfl rfl rfl) fun _ _ _ _ h => h) (pa_cons pe_str (pa_cons (pv 2) pa_nil))))) (pe_lst (pa_cons pe_str (pa_cons pe_str (pa_cons (pe_callB (r := rReprW) (call_reprW hG hu sd) rfl D.gR boot_rep (pa_cons (pv 2) pa_nil)) pa_nil)))) (nomark _))
          (pss_one (ps_ret pe_bl))
          pss_nil))))))
      (pss_cons (ps_if (pt_cmpR (op_neD hr.units) (pe_lamcall (k := 8) (T := Tb) rfl gS FS.kp lkS hcS bS scsaid rfl (.inl rfl) (said_gives (k := 0) D NN sd hG (hr.mono (by decide))) TB rfl hT hTu hr (lamS_by (sc := defScope s_law_parts_right) (by decide +kernel)) rfl (fun _ _ _ _ _ => rfl) (fun A outer s H E f c_ hr2 => (pe_meth (pv 0) D.c.cl D.m_ask Gm_ask (hr2.mono (by decide)) bm_ask .nil (passes_call (takes_of rfl rfl rfl rfl) fun _ _ _ _ h => h) (pa_cons (pv 1) (pa_cons pe_str (pa_cons pe_str pa_nil)))))) (pe_lst (pa_cons pe_str (pa_cons (pe_callB (r := rReprW) (call_reprW hG hu sd) rfl D.gR boot_rep (pa_cons pe_str pa_nil)) pa_nil))) (nomark _))
        (pss_one (ps_ret pe_bl))
        pss_nil)
      (pss_one (ps_ret (pe_cmpR (op_eqD hr.units) (pe_lamcall (k := 8) (T := Tb) rfl gS FS.kp lkS hcS bS scsaid rfl (.inl rfl) (said_gives (k := 0) D NN sd hG (hr.mono (by decide))) TB rfl hT hTu hr (lamS_by (sc := defScope s_law_parts_right) (by decide +kernel)) rfl (fun _ _ _ _ _ => rfl) (fun A outer s H E f c_ hr2 => (pe_itemI (pe_itemI (pv 0) pe_str Gm___getitem__ D.m___getitem__.at_ D.git D.m___getitem__.fn bm___getitem__ (hr2.mono (by decide)) (passes_call (takes_of rfl rfl rfl rfl) fun _ _ _ _ h => h)) pe_str Gl_g D.l___getitem__.at_ D.giL D.l___getitem__.fn bl_g (hr2.mono (by decide)) (passes_call (takes_of rfl rfl rfl rfl) fun _ _ _ _ h => h)))) (pe_lst (pa_cons pe_str (pa_cons pe_str (pa_cons (pe_callB (r := rReprW) (call_reprW hG hu sd) rfl D.gR boot_rep (pa_cons pe_str pa_nil)) pa_nil)))) (nomark _)))))))), ?_⟩
    have ntb : ∀ {xs : List V} (ps : Array Value), HO.lst xs ≠ .tbl ps := fun _ z => nomatch z
    obtain ⟨okla, _⟩ := hS.ok hla
    obtain ⟨ela, hela⟩ := ent_idx hla
    obtain ⟨ea, hea⟩ := ent_idx hS.a
    have oka : okD (.str "a") = true := by decide +kernel
    refine ⟨le_line (by simp), fun q1 g1 => fun q2 g2 => ⟨upd_same, [(.inr "a", .int 1)], rfl, by decide, le_line (by simp), fun L hL => ⟨L, rfl, ⟨_, SqL.of upd_same⟩, ?_⟩⟩⟩
    have e1 := Evl.Ex.new (o := .lst [.str "a"]) g1
    have e2 := (Evl.Ex.new (o := .dK []) g2).mut (o := .dK (mergeK [] [(.inr "a", .int 1)])) g2
    have e3 := Evl.Ex.new (o := .lst [.non, .str "q", .int 5, .ref q1, .ref q2]) hL
    have dL : DqAll _ [.non, .str "q", .int 5, .ref q1, .ref q2] oddP :=
      .cons .non (.cons (.str _) (.cons (.int _) (.cons (.lst (e3 _ _ (e2 _ _ upd_same)) (.cons (.str _) .nil)) (.cons (.dk (kvs := [(.inr "a", .int 1)]) (e3 _ _ upd_same) (.cons (.int 1) .nil)) .nil))))
    have hLs := at_new hL (.lst [.non, .str "q", .int 5, .ref q1, .ref q2])
    have e12 := (e1.trans e2).trans e3
    generalize ([.non, .str "q", .int 5, .ref q1, .ref q2] : List V) = vs1 at dL hLs e3 e12
    refine for_it (walk_list (xs := vs1)) (fun j σ' H' => ExtN H H' ∧ Tabs Tb H' ∧ H' L = some (.lst vs1) ∧ DqAll H' vs1 oddP ∧ ∃ v1 v2, σ' = [some (.ref t), some (.str la), v1, v2]) ⟨ExtN.of e12, hTb.ext e12, hLs, dL, none, none, rfl⟩ (fun j σ H' _ h => SqL.of h.2.2.1) ?_ ?_
    · rintro j y σ _ H3 hj ⟨eN, tb, hLL, dL2, v1, v2, rfl⟩ ⟨rfl, hy⟩
      obtain ⟨d, hd, dy⟩ := dL2.get hy
      obtain ⟨nz, ok, sh, so⟩ := oddP_ok d (List.mem_of_getElem? hd)
      have SD := ShowD.of sh
      have nin : inT S d = false := inT_no hS nz
      have eS : ExtN H3 H3 := ExtN.refl _
      refine ⟨tb, fun Ga ga ta => ?_⟩
      have hT4 := hT0.extN ((eN.trans eS).trans ga)
      obtain ⟨dt, ht⟩ := hT4.ob
      replace dy := dy.extN ga
      refine ⟨_, rfl, t, dt, _, rfl, ht, rfl, _, rfl, t, y, .non, d, D1, D2, D3, S, rfl, hT4, dy, ok, .inl ⟨nin, rs_said (wd := "loader") (by simp [exTab]) dy SD fun R1 H6 e6 hR1 => ?_⟩⟩
      replace eS := (eS.trans ga).trans (ExtN.of e6)
      replace tb := ta.ext e6
      replace dy := dy.ext e6
      clear ht dt hT4 ga ta e6
      refine ⟨tb, fun Ga ga ta => ?_⟩
      have hT4 := hT0.extN ((eN.trans eS).trans ga)
      obtain ⟨dt, ht⟩ := hT4.ob
      replace dy := dy.extN ga
      refine ⟨_, rfl, t, dt, _, rfl, ht, rfl, _, rfl, t, y, .non, .non, d, .none, .none, D1, D2, D3, S, rfl, hT4, dy, ok, .inl ⟨nin, rs_said (wd := "loader") (by simp [exTab]) dy SD fun R2 H6 e6 hR2 => ?_⟩⟩
      replace eS := (eS.trans ga).trans (ExtN.of e6)
      replace tb := ta.ext e6
      replace dy := dy.ext e6
      replace hR1 := e6 _ _ (ga _ _ hR1 ntb)
      clear ht dt hT4 ga ta e6
      refine ⟨le_line (by simp), fun L1 g => ?_⟩
      have en := Evl.Ex.new (o := .lst [.ref R1, .ref R2]) g
      have hL1 := at_new g (.lst [.ref R1, .ref R2])
      replace hR1 := en _ _ hR1
      replace hR2 := en _ _ hR2
      replace eS := eS.trans (ExtN.of en)
      replace tb := tb.ext en
      replace dy := dy.ext en
      clear en g
      refine ⟨_, rfl, ?_⟩
      refine ⟨tb, fun Ga ga ta => ?_⟩
      have hT4 := hT0.extN ((eN.trans eS).trans ga)
      obtain ⟨dt, ht⟩ := hT4.ob
      replace dy := dy.extN ga
      refine ⟨_, rfl, t, dt, _, rfl, ht, rfl, _, rfl, t, y, .non, d, .none, S, rfl, hT4.at_, dy, ok, .inl ⟨nin, rs_said (wd := "loader") (by simp [exTab]) dy SD fun R3 H6 e6 hR3 => ?_⟩⟩
      replace eS := (eS.trans ga).trans (ExtN.of e6)
      replace tb := ta.ext e6
      replace dy := dy.ext e6
      replace hR1 := e6 _ _ (ga _ _ hR1 ntb)
      replace hR2 := e6 _ _ (ga _ _ hR2 ntb)
      replace hL1 := e6 _ _ (ga _ _ hL1 ntb)
      clear ht dt hT4 ga ta e6
      refine ⟨tb, fun Ga ga ta => ?_⟩
      have hT4 := hT0.extN ((eN.trans eS).trans ga)
      obtain ⟨dt, ht⟩ := hT4.ob
      replace dy := dy.extN ga
      refine ⟨_, rfl, t, dt, _, rfl, ht, rfl, _, rfl, t, y, .non, d, .none, S, rfl, hT4.at_, dy, ok, .inl ⟨nin, rs_said (wd := "loader") (by simp [exTab]) dy SD fun R4 H6 e6 hR4 => ?_⟩⟩
      replace eS := (eS.trans ga).trans (ExtN.of e6)
      replace tb := ta.ext e6
      replace dy := dy.ext e6
      replace hR1 := e6 _ _ (ga _ _ hR1 ntb)
      replace hR2 := e6 _ _ (ga _ _ hR2 ntb)
      replace hL1 := e6 _ _ (ga _ _ hL1 ntb)
      replace hR3 := e6 _ _ (ga _ _ hR3 ntb)
      clear ht dt hT4 ga ta e6
      refine ⟨le_line (by simp), fun L2 g => ?_⟩
      have en := Evl.Ex.new (o := .lst [.ref R3, .ref R4]) g
      have hL2 := at_new g (.lst [.ref R3, .ref R4])
      replace hR1 := en _ _ hR1
      replace hR2 := en _ _ hR2
      replace hL1 := en _ _ hL1
      replace hR3 := en _ _ hR3
      replace hR4 := en _ _ hR4
      replace eS := eS.trans (ExtN.of en)
      replace tb := tb.ext en
      replace dy := dy.ext en
      clear en g
      refine ⟨L1, L2, _, _, rfl, rfl, hL1, hL2, le_line (by simp), fun L3 g => ?_⟩
      have en := Evl.Ex.new (o := .lst [.ref R1, .ref R2, .ref R3, .ref R4]) g
      have hL3 := at_new g (.lst [.ref R1, .ref R2, .ref R3, .ref R4])
      replace hR1 := en _ _ hR1
      replace hR2 := en _ _ hR2
      replace hR3 := en _ _ hR3
      replace hR4 := en _ _ hR4
      replace eS := eS.trans (ExtN.of en)
      replace tb := tb.ext en
      replace dy := dy.ext en
      clear en g
      refine ⟨_, rfl, ?_⟩
      refine ⟨tb, fun Ga ga ta => ?_⟩
      have hT4 := hT0.extN ((eN.trans eS).trans ga)
      obtain ⟨dt, ht⟩ := hT4.ob
      replace dy := dy.extN ga
      refine ⟨_, rfl, t, dt, _, rfl, ht, rfl, _, rfl, t, y, .non, d, .none, S, rfl, hT4.at_, dy, ok, .non, rfl, .inl ⟨nin, rs_said (wd := "loader") (by simp [exTab]) dy SD fun R5 H6 e6 hR5 => ?_⟩⟩
      replace eS := (eS.trans ga).trans (ExtN.of e6)
      replace tb := ta.ext e6
      replace dy := dy.ext e6
      replace hR1 := e6 _ _ (ga _ _ hR1 ntb)
      replace hR2 := e6 _ _ (ga _ _ hR2 ntb)
      replace hR3 := e6 _ _ (ga _ _ hR3 ntb)
      replace hR4 := e6 _ _ (ga _ _ hR4 ntb)
      replace hL3 := e6 _ _ (ga _ _ hL3 ntb)
      clear ht dt hT4 ga ta e6
      refine ⟨tb, fun Ga ga ta => ?_⟩
      have hT4 := hT0.extN ((eN.trans eS).trans ga)
      obtain ⟨dt, ht⟩ := hT4.ob
      replace dy := dy.extN ga
      refine ⟨_, rfl, _, rfl, t, dt, _, rfl, ht, t, y, d, S, rfl, hT4.at_, dy, ok, .inr ⟨nin, rs_said (wd := "loader") (by simp [exTab]) dy SD fun R6 H6 e6 hR6 => ?_⟩⟩
      replace eS := (eS.trans ga).trans (ExtN.of e6)
      replace tb := ta.ext e6
      replace dy := dy.ext e6
      replace hR1 := e6 _ _ (ga _ _ hR1 ntb)
      replace hR2 := e6 _ _ (ga _ _ hR2 ntb)
      replace hR3 := e6 _ _ (ga _ _ hR3 ntb)
      replace hR4 := e6 _ _ (ga _ _ hR4 ntb)
      replace hL3 := e6 _ _ (ga _ _ hL3 ntb)
      replace hR5 := e6 _ _ (ga _ _ hR5 ntb)
      clear ht dt hT4 ga ta e6
      refine ⟨le_line (by simp), fun L4 g => ?_⟩
      have en := Evl.Ex.new (o := .lst [.ref R5, .ref R6]) g
      have hL4 := at_new g (.lst [.ref R5, .ref R6])
      replace hR1 := en _ _ hR1
      replace hR2 := en _ _ hR2
      replace hR3 := en _ _ hR3
      replace hR4 := en _ _ hR4
      replace hR5 := en _ _ hR5
      replace hR6 := en _ _ hR6
      replace hL3 := en _ _ hL3
      replace eS := eS.trans (ExtN.of en)
      replace tb := tb.ext en
      replace dy := dy.ext en
      clear en g
      refine ⟨L3, L4, _, _, rfl, rfl, hL3, hL4, le_line (by simp), fun L5 g => ?_⟩
      have en := Evl.Ex.new (o := .lst [.ref R1, .ref R2, .ref R3, .ref R4, .ref R5, .ref R6]) g
      have hL5 := at_new g (.lst [.ref R1, .ref R2, .ref R3, .ref R4, .ref R5, .ref R6])
      replace hR1 := en _ _ hR1
      replace hR2 := en _ _ hR2
      replace hR3 := en _ _ hR3
      replace hR4 := en _ _ hR4
      replace hR5 := en _ _ hR5
      replace hR6 := en _ _ hR6
      replace eS := eS.trans (ExtN.of en)
      replace tb := tb.ext en
      replace dy := dy.ext en
      clear en g
      refine ⟨_, rfl, ?_⟩
      refine ⟨_, rfl, y, d, rfl, .q dy, SD.s, Nat.le_trans SD.z (by rw [sizeLine_eq]; decide), SD.p, le_line (by simp), fun R7 g => ?_⟩
      have en := Evl.Ex.new (o := .lst [.str "loader", .str d.shown]) g
      have hR7 := at_new g (.lst [.str "loader", .str d.shown])
      replace hR1 := en _ _ hR1
      replace hR2 := en _ _ hR2
      replace hR3 := en _ _ hR3
      replace hR4 := en _ _ hR4
      replace hR5 := en _ _ hR5
      replace hR6 := en _ _ hR6
      replace hL5 := en _ _ hL5
      replace eS := eS.trans (ExtN.of en)
      replace tb := tb.ext en
      replace dy := dy.ext en
      clear en g
      refine ⟨le_line (by simp), fun LA g => ?_⟩
      have en := Evl.Ex.new (o := .lst [.ref R7]) g
      have hLA := at_new g (.lst [.ref R7])
      replace hR1 := en _ _ hR1
      replace hR2 := en _ _ hR2
      replace hR3 := en _ _ hR3
      replace hR4 := en _ _ hR4
      replace hR5 := en _ _ hR5
      replace hR6 := en _ _ hR6
      replace hL5 := en _ _ hL5
      replace hR7 := en _ _ hR7
      replace eS := eS.trans (ExtN.of en)
      replace tb := tb.ext en
      replace dy := dy.ext en
      clear en g
      refine ⟨LA, 6, _, rfl, rfl, hLA, by decide, by decide, by rw [sizeLine_eq]; show 1 * 6 ≤ 16777216; decide, fun LB g => ?_⟩
      have en := Evl.Ex.new (o := .lst [.ref R7, .ref R7, .ref R7, .ref R7, .ref R7, .ref R7]) g
      have hLB := at_new g (.lst [.ref R7, .ref R7, .ref R7, .ref R7, .ref R7, .ref R7])
      replace hR1 := en _ _ hR1
      replace hR2 := en _ _ hR2
      replace hR3 := en _ _ hR3
      replace hR4 := en _ _ hR4
      replace hR5 := en _ _ hR5
      replace hR6 := en _ _ hR6
      replace hL5 := en _ _ hL5
      replace hR7 := en _ _ hR7
      replace hLA := en _ _ hLA
      replace eS := eS.trans (ExtN.of en)
      replace tb := tb.ext en
      replace dy := dy.ext en
      clear en g
      refine ne_same (d := .list (List.replicate 6 (.list [.str "loader", .str d.shown]))) (.lst hL5 (dqRep fun r hr => ?_)) (.lst hLB (dqRep fun r hr => ?_)) (shpL 6 _ _ (by decide +kernel) so) ⟨_, rfl, ?_⟩
      · simp only [List.mem_cons, List.not_mem_nil, or_false] at hr
        rcases hr with rfl | rfl | rfl | rfl | rfl | rfl
        · exact ⟨_, rfl, hR1⟩
        · exact ⟨_, rfl, hR2⟩
        · exact ⟨_, rfl, hR3⟩
        · exact ⟨_, rfl, hR4⟩
        · exact ⟨_, rfl, hR5⟩
        · exact ⟨_, rfl, hR6⟩
      · simp only [List.mem_cons, List.not_mem_nil, or_false, or_self] at hr
        exact ⟨_, hr, hR7⟩
      refine ifF rfl ?_
      have hT4 := hT0.extN (eN.trans eS)
      obtain ⟨dt, ht⟩ := hT4.ob
      refine ⟨_, rfl, _, rfl, t, dt, _, rfl, ht, t, y, d, S, rfl, hT4.at_, dy, ok, _, rfl, _, rfl, ?_⟩
      rw [nin]
      exact ifF rfl ⟨eN.trans eS, tb, eS _ _ hLL ntb, dL2.extN eS, _, _, rfl⟩
    rintro σ H2 ⟨eN, tb, _, _, v1, v2, rfl⟩
    clear dL hLs e12 e3 e2 e1
    -- texts that are none
    refine ⟨le_line (by simp), fun q3 g3 => ⟨le_line (by simp), fun L9 hL9 => ⟨L9, rfl, ⟨_, SqL.of upd_same⟩, ?_⟩⟩⟩
    have e1 := Evl.Ex.new (o := .tup [.str "x", .str "top"]) g3
    have e2 := Evl.Ex.new (o := .lst [.non, .str "x", .int 5, .ref q3]) hL9
    have dL : DqAll _ [.non, .str "x", .int 5, .ref q3] oddC := .cons .non (.cons (.str _) (.cons (.int _) (.cons (.tup (e2 _ _ upd_same) (.cons (.str _) (.cons (.str _) .nil))) .nil)))
    have hLs := at_new hL9 (.lst [.non, .str "x", .int 5, .ref q3])
    have e12 := e1.trans e2
    generalize ([.non, .str "x", .int 5, .ref q3] : List V) = vs2 at dL hLs e2 e12
    refine for_it (walk_list (xs := vs2)) (fun j σ' H' => ExtN H H' ∧ Tabs Tb H' ∧ H' L9 = some (.lst vs2) ∧ DqAll H' vs2 oddC ∧ ∃ v1 v2, σ' = [some (.ref t), some (.str la), v1, v2]) ⟨eN.trans (ExtN.of e12), tb.ext e12, hLs, dL, _, _, rfl⟩ (fun j σ H' _ h => SqL.of h.2.2.1) ?_ ?_
    · rintro j y σ _ H3 hj ⟨eN, tb, hLL, dL2, v1, v2, rfl⟩ ⟨rfl, hy⟩
      obtain ⟨d, hd, dy⟩ := dL2.get hy
      obtain ⟨td, sh, so⟩ := oddC_ok d (List.mem_of_getElem? hd)
      have SD := ShowD.of sh
      have eS : ExtN H3 H3 := ExtN.refl _
      refine ⟨tb, fun Ga ga ta => ?_⟩
      have hT4 := hT0.extN ((eN.trans eS).trans ga)
      obtain ⟨dt, ht⟩ := hT4.ob
      replace dy := dy.extN ga
      refine ⟨_, rfl, t, dt, _, rfl, ht, rfl, _, rfl, t, .str "a", y, .str "a", D1, D2, D3, S, rfl, hT4, .str _, oka, .inr ⟨"a", ea, rfl, hea, .inl ⟨d, dy, D.insC.of td, rs_said (wd := "class") (by simp [exTab]) dy SD fun R1 H6 e6 hR1 => ?_⟩⟩⟩
      replace eS := (eS.trans ga).trans (ExtN.of e6)
      replace tb := ta.ext e6
      replace dy := dy.ext e6
      clear ht dt hT4 ga ta e6
      refine ⟨_, rfl, y, d, rfl, .q dy, SD.s, Nat.le_trans SD.z (by rw [sizeLine_eq]; decide), SD.p, le_line (by simp), fun R2 g => ?_⟩
      have en := Evl.Ex.new (o := .lst [.str "class", .str d.shown]) g
      have hR2 := at_new g (.lst [.str "class", .str d.shown])
      replace hR1 := en _ _ hR1
      replace eS := eS.trans (ExtN.of en)
      replace tb := tb.ext en
      replace dy := dy.ext en
      clear en g
      refine ne_same (dq2 hR1) (dq2 hR2) (shp2 _ _ (by decide +kernel) so) ⟨_, rfl, ifF rfl ?_⟩
      exact ⟨eN.trans eS, tb, eS _ _ hLL ntb, dL2.extN eS, _, _, rfl⟩
    rintro σ H5 ⟨eN, tb, _, _, v1, v2, rfl⟩
    clear dL hLs e12 e2 e1
    -- names that are none
    refine ⟨le_line (by simp), fun q4 g4 => ⟨le_line (by simp), fun L8 hL8 => ⟨L8, rfl, ⟨_, SqL.of upd_same⟩, ?_⟩⟩⟩
    have e1 := Evl.Ex.new (o := .lst [.str "x"]) g4
    have e2 := Evl.Ex.new (o := .lst [.non, .str "", .str "A", .int 5, .ref q4, .str "x[]"]) hL8
    have dL : DqAll _ [.non, .str "", .str "A", .int 5, .ref q4, .str "x[]"] oddT := .cons .non (.cons (.str _) (.cons (.str _) (.cons (.int _) (.cons (.lst (e2 _ _ upd_same) (.cons (.str _) .nil)) (.cons (.str _) .nil)))))
    have hLs := at_new hL8 (.lst [.non, .str "", .str "A", .int 5, .ref q4, .str "x[]"])
    have e12 := e1.trans e2
    generalize ([.non, .str "", .str "A", .int 5, .ref q4, .str "x[]"] : List V) = vs3 at dL hLs e2 e12
    refine for_it (walk_list (xs := vs3)) (fun j σ' H' => ExtN H H' ∧ Tabs Tb H' ∧ H' L8 = some (.lst vs3) ∧ DqAll H' vs3 oddT ∧ ∃ v1 v2, σ' = [some (.ref t), some (.str la), v1, v2]) ⟨eN.trans (ExtN.of e12), tb.ext e12, hLs, dL, _, _, rfl⟩ (fun j σ H' _ h => SqL.of h.2.2.1) ?_ ?_
    · rintro j y σ _ H3 hj ⟨eN, tb, hLL, dL2, v1, v2, rfl⟩ ⟨rfl, hy⟩
      obtain ⟨d, hd, dy⟩ := dL2.get hy
      obtain ⟨nm, cn, ok, sh, so⟩ := oddT_ok d (List.mem_of_getElem? hd)
      have SD := ShowD.of sh
      have hts : tsOf S "a" d = none := by
        cases d with
        | str n =>
          show (ent S "a").bind _ = none
          rw [hea]
          show valV (kvT ea) (.inr n) = none
          rw [kvT, (hE ea (ent_mem hea)).1]
          rfl
        | _ => rfl
      have eS : ExtN H3 H3 := ExtN.refl _
      refine ⟨tb, fun Ga ga ta => ?_⟩
      have hT4 := hT0.extN ((eN.trans eS).trans ga)
      obtain ⟨dt, ht⟩ := hT4.ob
      replace dy := dy.extN ga
      refine ⟨_, rfl, t, dt, _, rfl, ht, rfl, _, rfl, _, rfl, t, .str la, y, .str "q", .str la, d, .str "q", D1, D2, D3, S, rfl, hT4, .str _, okla, .inr ⟨inT_ent hela, dy, ok, .inl ⟨cn, rs_said (wd := "name") (by simp [exTab]) dy SD fun R1 H6 e6 hR1 => ?_⟩⟩⟩
      replace eS := (eS.trans ga).trans (ExtN.of e6)
      replace tb := ta.ext e6
      replace dy := dy.ext e6
      clear ht dt hT4 ga ta e6
      refine ⟨tb, fun Ga ga ta => ?_⟩
      have hT4 := hT0.extN ((eN.trans eS).trans ga)
      obtain ⟨dt, ht⟩ := hT4.ob
      replace dy := dy.extN ga
      refine ⟨_, rfl, t, dt, _, rfl, ht, rfl, _, rfl, t, .str "a", y, .str "a", d, S, rfl, hT4.at_, .str _, oka, .inr ⟨hS.inA, dy, ok, .inl ⟨nm, rs_said (wd := "name") (by simp [exTab]) dy SD fun R2 H6 e6 hR2 => ?_⟩⟩⟩
      replace eS := (eS.trans ga).trans (ExtN.of e6)
      replace tb := ta.ext e6
      replace dy := dy.ext e6
      replace hR1 := e6 _ _ (ga _ _ hR1 ntb)
      clear ht dt hT4 ga ta e6
      refine ⟨le_line (by simp), fun L1 g => ?_⟩
      have en := Evl.Ex.new (o := .lst [.ref R1, .ref R2]) g
      have hL1 := at_new g (.lst [.ref R1, .ref R2])
      replace hR1 := en _ _ hR1
      replace hR2 := en _ _ hR2
      replace eS := eS.trans (ExtN.of en)
      replace tb := tb.ext en
      replace dy := dy.ext en
      clear en g
      refine ⟨_, rfl, ?_⟩
      refine ⟨tb, fun Ga ga ta => ?_⟩
      have hT4 := hT0.extN ((eN.trans eS).trans ga)
      obtain ⟨dt, ht⟩ := hT4.ob
      replace dy := dy.extN ga
      refine ⟨_, rfl, t, dt, _, rfl, ht, rfl, _, rfl, t, .str "a", y, .str "a", d, S, rfl, hT4.at_, .str _, oka, .inr ⟨hS.inA, dy, ok, .inl ⟨nm, rs_said (wd := "name") (by simp [exTab]) dy SD fun R3 H6 e6 hR3 => ?_⟩⟩⟩
      replace eS := (eS.trans ga).trans (ExtN.of e6)
      replace tb := ta.ext e6
      replace dy := dy.ext e6
      replace hR1 := e6 _ _ (ga _ _ hR1 ntb)
      replace hR2 := e6 _ _ (ga _ _ hR2 ntb)
      replace hL1 := e6 _ _ (ga _ _ hL1 ntb)
      clear ht dt hT4 ga ta e6
      refine ⟨tb, fun Ga ga ta => ?_⟩
      have hT4 := hT0.extN ((eN.trans eS).trans ga)
      obtain ⟨dt, ht⟩ := hT4.ob
      replace dy := dy.extN ga
      refine ⟨_, rfl, t, dt, _, rfl, ht, t, .str "a", .str "a", S, rfl, hT4.at_, .str _, oka, .inl ⟨hS.inA, fun l dl Gb gb hl => ⟨_, rfl, l, dl, _, rfl, hl, l, t, "a", y, d, S, ea, rfl, ⟨dl, hl⟩, oka, hT4.at_.ext gb, hea, dy.ext gb, ok, .inl ⟨nm, rs_said (wd := "name") (by simp [exTab]) (dy.ext gb) SD fun R4 H6 e6 hR4 => ?_⟩⟩⟩⟩
      replace e6 := gb.trans e6
      clear hl gb
      replace eS := (eS.trans ga).trans (ExtN.of e6)
      replace tb := ta.ext e6
      replace dy := dy.ext e6
      replace hR1 := e6 _ _ (ga _ _ hR1 ntb)
      replace hR2 := e6 _ _ (ga _ _ hR2 ntb)
      replace hL1 := e6 _ _ (ga _ _ hL1 ntb)
      replace hR3 := e6 _ _ (ga _ _ hR3 ntb)
      clear ht dt hT4 ga ta e6
      refine ⟨le_line (by simp), fun L2 g => ?_⟩
      have en := Evl.Ex.new (o := .lst [.ref R3, .ref R4]) g
      have hL2 := at_new g (.lst [.ref R3, .ref R4])
      replace hR1 := en _ _ hR1
      replace hR2 := en _ _ hR2
      replace hR3 := en _ _ hR3
      replace hR4 := en _ _ hR4
      replace hL1 := en _ _ hL1
      replace eS := eS.trans (ExtN.of en)
      replace tb := tb.ext en
      replace dy := dy.ext en
      clear en g
      refine ⟨L1, L2, _, _, rfl, rfl, hL1, hL2, le_line (by simp), fun L3 g => ?_⟩
      have en := Evl.Ex.new (o := .lst [.ref R1, .ref R2, .ref R3, .ref R4]) g
      have hL3 := at_new g (.lst [.ref R1, .ref R2, .ref R3, .ref R4])
      replace hR1 := en _ _ hR1
      replace hR2 := en _ _ hR2
      replace hR3 := en _ _ hR3
      replace hR4 := en _ _ hR4
      replace eS := eS.trans (ExtN.of en)
      replace tb := tb.ext en
      replace dy := dy.ext en
      clear en g
      refine ⟨_, rfl, ?_⟩
      refine ⟨_, rfl, y, d, rfl, .q dy, SD.s, Nat.le_trans SD.z (by rw [sizeLine_eq]; decide), SD.p, le_line (by simp), fun R7 g => ?_⟩
      have en := Evl.Ex.new (o := .lst [.str "name", .str d.shown]) g
      have hR7 := at_new g (.lst [.str "name", .str d.shown])
      replace hR1 := en _ _ hR1
      replace hR2 := en _ _ hR2
      replace hR3 := en _ _ hR3
      replace hR4 := en _ _ hR4
      replace hL3 := en _ _ hL3
      replace eS := eS.trans (ExtN.of en)
      replace tb := tb.ext en
      replace dy := dy.ext en
      clear en g
      refine ⟨le_line (by simp), fun LA g => ?_⟩
      have en := Evl.Ex.new (o := .lst [.ref R7]) g
      have hLA := at_new g (.lst [.ref R7])
      replace hR1 := en _ _ hR1
      replace hR2 := en _ _ hR2
      replace hR3 := en _ _ hR3
      replace hR4 := en _ _ hR4
      replace hL3 := en _ _ hL3
      replace hR7 := en _ _ hR7
      replace eS := eS.trans (ExtN.of en)
      replace tb := tb.ext en
      replace dy := dy.ext en
      clear en g
      refine ⟨LA, 4, _, rfl, rfl, hLA, by decide, by decide, by rw [sizeLine_eq]; show 1 * 4 ≤ 16777216; decide, fun LB g => ?_⟩
      have en := Evl.Ex.new (o := .lst [.ref R7, .ref R7, .ref R7, .ref R7]) g
      have hLB := at_new g (.lst [.ref R7, .ref R7, .ref R7, .ref R7])
      replace hR1 := en _ _ hR1
      replace hR2 := en _ _ hR2
      replace hR3 := en _ _ hR3
      replace hR4 := en _ _ hR4
      replace hL3 := en _ _ hL3
      replace hR7 := en _ _ hR7
      replace hLA := en _ _ hLA
      replace eS := eS.trans (ExtN.of en)
      replace tb := tb.ext en
      replace dy := dy.ext en
      clear en g
      refine ne_same (d := .list (List.replicate 4 (.list [.str "name", .str d.shown]))) (.lst hL3 (dqRep fun r hr => ?_)) (.lst hLB (dqRep fun r hr => ?_)) (shpL 4 _ _ (by decide +kernel) so) ⟨_, rfl, ?_⟩
      · simp only [List.mem_cons, List.not_mem_nil, or_false] at hr
        rcases hr with rfl | rfl | rfl | rfl
        · exact ⟨_, rfl, hR1⟩
        · exact ⟨_, rfl, hR2⟩
        · exact ⟨_, rfl, hR3⟩
        · exact ⟨_, rfl, hR4⟩
      · simp only [List.mem_cons, List.not_mem_nil, or_false, or_self] at hr
        exact ⟨_, hr, hR7⟩
      refine ifF rfl ?_
      have hT4 := hT0.extN (eN.trans eS)
      obtain ⟨dt, ht⟩ := hT4.ob
      refine ⟨_, rfl, _, rfl, t, dt, _, rfl, ht, t, .str "a", .str "a", S, rfl, hT4.at_, .str _, oka, .inl ⟨hS.inA, fun l dl Gb gb hl => ⟨l, dl, _, rfl, hl, l, y, d, rfl, dy.ext gb, ok, nm, fun Gc gc => ⟨_, rfl, _, rfl, ifF rfl ?_⟩⟩⟩⟩
      have gbc := gb.trans gc
      replace eS := eS.trans (ExtN.of gbc)
      replace tb := tb.ext gbc
      replace dy := dy.ext gbc
      clear hl gb gc gbc hT4 ht hR1 hR2 hR3 hR4 hL1 hL2 hL3 hR7 hLA hLB
      refine ⟨tb, fun Ga ga ta => ?_⟩
      have hT4 := hT0.extN ((eN.trans eS).trans ga)
      obtain ⟨dt, ht⟩ := hT4.ob
      replace dy := dy.extN ga
      refine ⟨_, rfl, t, dt, _, rfl, ht, rfl, _, rfl, t, .str "a", y, .str "a", d, S, rfl, hT4.at_, .str _, oka, dy, ok, .inr ⟨"a", rfl, hS.inA, .inl ⟨hts, ru_said dy SD fun R1 H6 e6 hR1 => ?_⟩⟩⟩
      replace eS := (eS.trans ga).trans (ExtN.of e6)
      replace tb := ta.ext e6
      replace dy := dy.ext e6
      clear ht dt hT4 ga ta e6
      refine ⟨_, rfl, y, d, rfl, .q dy, SD.s, Nat.le_trans SD.z (by rw [sizeLine_eq]; decide), SD.p, le_line (by simp), fun R2 g => ?_⟩
      have en := Evl.Ex.new (o := .lst [.str "none", .str "a", .str d.shown]) g
      have hR2 := at_new g (.lst [.str "none", .str "a", .str d.shown])
      replace hR1 := en _ _ hR1
      replace eS := eS.trans (ExtN.of en)
      replace tb := tb.ext en
      replace dy := dy.ext en
      clear en g
      refine ne_same (dq3 hR1) (dq3 hR2) (shp3 _ _ _ (by decide +kernel) (by decide +kernel) so) ⟨_, rfl, ifF rfl ?_⟩
      exact ⟨eN.trans eS, tb, eS _ _ hLL ntb, dL2.extN eS, _, _, rfl⟩
    rintro σ H6 ⟨eN, tb, _, _, v1, v2, rfl⟩
    clear dL hLs e12 e2 e1
    have eS : ExtN H6 H6 := ExtN.refl _
    have SDt : ShowD (.str "top") := ShowD.of (by decide +kernel)
    have SDn : ShowD (.str "nothing") := ShowD.of (by decide +kernel)
    refine ⟨tb, fun Ga ga ta => ?_⟩
    have hT4 := hT0.extN ((eN.trans eS).trans ga)
    obtain ⟨dt, ht⟩ := hT4.ob
    refine ⟨_, rfl, t, dt, _, rfl, ht, rfl, _, rfl, t, .str la, .str "top", .str "q", .str la, .str "top", .str "q", D1, D2, D3, S, rfl, hT4, .str _, okla, .inr ⟨inT_ent hela, .str _, by decide +kernel, .inl ⟨by decide +kernel, rs_said (wd := "name") (by simp [exTab]) (.str _) SDt fun R1 H6 e6 hR1 => ?_⟩⟩⟩
    replace eS := (eS.trans ga).trans (ExtN.of e6)
    replace tb := ta.ext e6
    clear ht dt hT4 ga ta e6
    refine ⟨.str "top", .str "top", rfl, .q (.str _), SDt.s, Nat.le_trans SDt.z (by rw [sizeLine_eq]; decide), SDt.p, le_line (by simp), fun R2 g => ?_⟩
    have en := Evl.Ex.new (o := .lst [.str "name", .str (PyData.str "top").shown]) g
    have hR2 := at_new g (.lst [.str "name", .str (PyData.str "top").shown])
    replace hR1 := en _ _ hR1
    replace eS := eS.trans (ExtN.of en)
    replace tb := tb.ext en
    clear en g
    refine ne_same (dq2 hR1) (dq2 hR2) (shp2 _ _ (by decide +kernel) (by decide +kernel)) ⟨_, rfl, ifF rfl ?_⟩
    refine ⟨tb, fun Ga ga ta => ?_⟩
    have hT4 := hT0.extN ((eN.trans eS).trans ga)
    obtain ⟨dt, ht⟩ := hT4.ob
    refine ⟨_, rfl, t, dt, _, rfl, ht, t, .str "a", .str "a", S, rfl, hT4.at_, .str _, oka, .inl ⟨hS.inA, fun l dl Gb gb hl => ⟨l, dl, _, rfl, hl, l, t, "a", .str "nothing", .str "nothing", S, ea, rfl, ⟨dl, hl⟩, oka, hT4.at_.ext gb, hea, .str _, by decide +kernel, .inr ⟨"nothing", rfl, by decide +kernel, by decide +kernel, by rw [hasT, (hE ea (ent_mem hea)).1]; rfl, by rw [hasA, (hE ea (ent_mem hea)).2]; rfl, fun Gd gd => ru_said (.str _) SDn fun R3 H6 e6 hR3 => ?_⟩⟩⟩⟩
    replace e6 := (gb.trans gd).trans e6
    replace eS := (eS.trans ga).trans (ExtN.of e6)
    replace tb := ta.ext e6
    clear ht dt hT4 ga ta e6
    refine ⟨.str "nothing", .str "nothing", rfl, .q (.str _), SDn.s, Nat.le_trans SDn.z (by rw [sizeLine_eq]; decide), SDn.p, le_line (by simp), fun R4 g => ?_⟩
    have en := Evl.Ex.new (o := .lst [.str "none", .str "a", .str (PyData.str "nothing").shown]) g
    have hR4 := at_new g (.lst [.str "none", .str "a", .str (PyData.str "nothing").shown])
    replace hR3 := en _ _ hR3
    replace eS := eS.trans (ExtN.of en)
    replace tb := tb.ext en
    clear en g
    exact eq_same (dq3 hR3) (dq3 hR4) (shp3 _ _ _ (by decide +kernel) (by decide +kernel) (by decide +kernel)) (hQ _ (eN.trans eS) tb)
end
end K06

set_option Elab.async false
set_option linter.all false
set_option maxRecDepth 100000
set_option maxHeartbeats 0
/-! _law_asks_right -/
namespace K06
open PySem PySem.Spec PyProof.Rows L2 EX2 TX LamX
theorem ExtN.mut {H H' : Hp} {a : Addr} {o : HO} (e : ExtN H H') (n : ∀ o, H a = some o → ∃ ps, o = .tbl ps) : ExtN H (upd H' a o) := fun b o2 hb nt => by
  by_cases q : b = a
  · rw [q] at hb
    obtain ⟨ps, z⟩ := n _ hb
    exact absurd z (nt ps)
  · rw [upd_ne q]; exact e _ _ hb nt
theorem newN {H H' : Hp} {a : Addr} (e : ExtN H H') (g : H' a = none) : ∀ o, H a = some o → ∃ ps, o = .tbl ps := fun o h => Classical.byContradiction fun w => by
  have := e _ _ h fun ps z => w ⟨ps, z⟩
  rw [g] at this
  cases this
theorem Tabs.mut {Tb : List (Addr × Str)} {H : Hp} {a : Addr} {o : HO} (t : Tabs Tb H) (n1 : ∀ ps, H a ≠ some (.tbl ps)) (n2 : ∀ q, H a ≠ some (CodeO a q)) : Tabs Tb (upd H a o) := fun p hp => by
  obtain ⟨ps, h1, h2, h3⟩ := t p hp
  have q : p.1 ≠ a := fun z => by rw [z] at h1; exact n1 _ h1
  refine ⟨ps, by rw [upd_ne q]; exact h1, h2, fun pos cv hc => ?_⟩
  obtain ⟨c, hc1, hc2⟩ := h3 pos cv hc
  have q2 : c ≠ a := fun z => by rw [z] at hc2; exact n2 _ hc2
  exact ⟨c, hc1, by rw [upd_ne q2]; exact hc2⟩
/-- a ClassText made -/
theorem exMade {H Hc : Hp} {x dx : Addr} {o1 o2 : HO} (h1 : H x = none) (h2 : H dx = none) (k : ∀ b o, b ≠ x → upd (upd H dx o1) x o2 b = some o → Hc b = some o) : Evl.Ex H Hc := fun b o e => by
  have n1 : b ≠ x := by rintro rfl; rw [h1] at e; cases e
  have n2 : b ≠ dx := by rintro rfl; rw [h2] at e; cases e
  exact k b o n1 (by rw [upd_ne n1, upd_ne n2]; exact e)
theorem ne_lst {G : Hp} {b L r : Addr} {z : Str} {zs rs : List V} (h1 : G b = some (.lst (.str z :: zs))) (h2 : G L = some (.lst (.ref r :: rs))) : b ≠ L := fun e => by
  rw [e, h2] at h1
  cases h1
theorem at_upd {H : Hp} {a : Addr} {o1 : HO} (_ : H a = some o1) (o : HO) : upd H a o a = some o := upd_same
theorem ask_bad {K : PySem.W.Frag} {E : XK} {H : Hp} {v : V} {S : List Ent} {la n : Str} {il : Nat} {dv : PyData} {e : Ent} {R : Str → Str → Str → Ent → Prop} (hla : Idx S la il) (he : ent S la = some e) (hk : dv = .str la ∨ inT S dv = false) (h : Rs E H (He.ga K "UnknownLoader") "given" v) :
    (inT S dv = false ∧ Rs E H (He.ga K "UnknownLoader") "given" v) ∨ ∃ z n' o i j e, PyData.str la = .str z ∧ PyData.str n = .str n' ∧ dv = .str o ∧ Idx S z i ∧ Idx S o j ∧ ent S z = some e ∧
        ((i ≤ j ∧ Rs E H (He.ga K "UnknownLoader") "given" v) ∨ (j < i ∧ R z n' o e)) := by
  rcases hk with rfl | h0
  · exact .inr ⟨la, n, la, il, il, e, rfl, rfl, rfl, hla, hla, he, .inl ⟨Nat.le_refl _, h⟩⟩
  · exact .inl ⟨h0, h⟩
def oddK (la : Str) : List PyData := [.str la, .str "q", .none, .list [.str "a"]]
def spAR (K : PySem.W.Frag) (Tb : List (Addr × Str)) : Sp := fun vs H Q _ => ∃ (t D1 D2 D3 : Addr) (S : List Ent) (la : Str) (il : Nat) (e : Ent), vs = [.ref t, .str la] ∧ TbX (He.ga K "Tables") H t D1 D2 D3 S ∧ NmS S ∧ Idx S la il ∧ 0 < il ∧ ent S la = some e ∧ hasT e "x" = true ∧ hasA e "z" = true ∧ Tabs Tb H ∧
  ∀ H', ExtN H H' → Tabs Tb H' → Q (.bl true) H'
theorem oddK_ok {S : List Ent} (hS : NmS S) {la : Str} {il : Nat} (hla : Idx S la il) : ∀ d ∈ oddK la, (d = .str la ∨ inT S d = false) ∧ okD d = true ∧ showB d = true ∧ PyData.strOk d.shown = true := by
  intro d hd
  obtain ⟨h1, h2, h3, _⟩ := hS.ok hla
  have hq : okD (.str "q") = true ∧ showB (.str "q") = true ∧ PyData.strOk (PyData.str "q").shown = true := by decide +kernel
  have hn : okD .none = true ∧ showB .none = true ∧ PyData.strOk PyData.none.shown = true := by decide +kernel
  have hl : okD (.list [.str "a"]) = true ∧ showB (.list [.str "a"]) = true ∧ PyData.strOk (PyData.list [.str "a"]).shown = true := by decide +kernel
  simp only [oddK, List.mem_cons, List.not_mem_nil, or_false] at hd
  rcases hd with rfl | rfl | rfl | rfl
  · exact ⟨.inl rfl, h1, h2, h3⟩
  · exact ⟨.inr (hS.no (by decide +kernel)), hq⟩
  · exact ⟨.inr rfl, hn⟩
  · exact ⟨.inr rfl, hl⟩
section
variable {P : Program} {w : World} {K : PySem.W.Frag} {mg : Str → Option Value} {base : Heap} {f : Addr} {fd : FuncData}
abbrev s_law_asks_right : Stmt := top 48
abbrev n_law_asks_right : List Str := ["_law_tables", "_law_last", "_law_odd", "_law_told"]
theorem sc_law_asks_right : FnScope n_law_asks_right ["_law_tables", "_law_last"] (defScope s_law_asks_right) := ⟨rfl, rfl, rfl, by decide +kernel, rfl, by decide +kernel, by decide +kernel⟩
theorem ok_law_asks_right {cC cT : Addr} {Tb : List (Addr × Str)} (F : FnP K "_law_asks_right" s_law_asks_right f fd) (hcd : ∀ cdv, CodeAt K f cdv → cdv = .ref cC) (TB : TabB base mg cC cT) (hT : (cT, qOf "_law_asks_right" s_law_asks_right) ∈ Tb) (hTu : ∀ p ∈ Tb, p.1 = cT → p.2 = qOf "_law_asks_right" s_law_asks_right) (D : TK P w K mg base) (NN : NamesNe K) (sd : SysD base) (said : ∃ f fd, mg "_law_said" = some (.ref f) ∧ FnP K "_law_said" ssaid f fd) : FnOkG P w K mg base 11 f fd ["_law_tables", "_law_last"] (spAR K Tb) := by
  have T := D.t
  obtain ⟨fS, fdS, gS, FS⟩ := said
  have bS : Binds K fdS ["_law_call"] [] := FS.bindsN fun _ _ _ _ _ _ us hl => match us, hl with | [_], _ => rfl
  obtain ⟨fdm_ask, Fm_ask⟩ := D.f_ask
  have Gm_ask := okTables_ask (P := P) (w := w) (base := base) Fm_ask D
  have bm_ask : Binds K fdm_ask ["self", "loader", "name", "other"] [] := FunD.bindsN Fm_ask fun _ _ _ _ _ _ us hl => match us, hl with | [_, _, _, _], _ => rfl
  obtain ⟨fdm_add_class, Fm_add_class⟩ := D.f_add_class
  have Gm_add_class := okTables_add_class (P := P) (w := w) (base := base) Fm_add_class D
  have bm_add_class : Binds K fdm_add_class ["self", "loader", "text"] [] := FunD.bindsN Fm_add_class fun _ _ _ _ _ _ us hl => match us, hl with | [_, _, _], _ => rfl
  obtain ⟨fdZ, FZ⟩ := D.initC
  have GZ := okClassText___init__ (P := P) (w := w) (base := base) FZ D.d D.hMe D.ct
  obtain ⟨dzC, vzC, bzC⟩ := ctz0 FZ
  refine EX2.okGC F sc_law_asks_right (fun vs H Q E h => ?_) (fun cdv A outer s H vs Q E hc hg hr h => ?_)
  · obtain ⟨t, D1, D2, D3, S, la, il, el, rfl, _⟩ := h
    rfl
  · obtain ⟨t, D1, D2, D3, S, la, il, el, rfl, hT0, hS, hla, hil, hel, hx, hz, hTb, hQ⟩ := h
    obtain rfl := hcd cdv hc
    have hG : (A.deeper (envOfC "_law_asks_right" (defScope s_law_asks_right) s.heap.objs.size f (.ref cC))).guards = some [] := by rw [EX2.guards_deeper]; exact hg
    have hu : (A.deeper (envOfC "_law_asks_right" (defScope s_law_asks_right) s.heap.objs.size f (.ref cC))).units + 65 < cLine := by have := hr.un; omega
    obtain ⟨oc, od, dV, kV, doc, pm, an, cdR, ct, osl, rfl, lkS, hcS, _⟩ := FS.ex
    refine ⟨_, PSs.nox (pss_cons (ps_for PassesOwn.never rfl (pi_list (pe_lst (pa_cons (pv 1) (pa_cons pe_str (pa_cons pe_non (pa_cons (pe_lst (pa_cons pe_str pa_nil)) pa_nil)))))) (pg_name (i := 2) sc_law_asks_right.nd rfl (Or.inr rfl))
        (pss_one (ps_if (pt_cmpR (op_neD hr.units) (pe_lamcall (k := 8) (T := Tb) rfl gS FS.kp lkS hcS bS scsaid rfl (.inl rfl) (said_gives (k := 0) D NN sd hG (hr.mono (by decide))) TB rfl hT hTu hr (lamS_by (sc := defScope s_law_asks_right) (by decide +kernel)) rfl (fun _ _ _ _ _ => rfl) (fun A outer s H E f c_ hr2 => (pe_meth (pv 0) D.c.cl D.m_ask Gm_ask (hr2.mono (by decide)) bm_ask .nil (passes_call (takes_of rfl rfl rfl rfl) fun _ _ _ _ h => h) (pa_cons (pv 1) (pa_cons pe_str (pa_cons (pv 2) pa_nil)))))) (pe_lst (pa_cons pe_str (pa_cons (pe_callB (r := rReprW) (call_reprW hG hu sd) rfl D.gR boot_rep (pa_cons (pv 2) pa_nil)) pa_nil))) (nomark _))
          (pss_one (ps_ret pe_bl))
          pss_nil)))
      (pss_cons (ps_if (pt_cmpR (op_neD hr.units) (pe_lamcall (k := 8) (T := Tb) rfl gS FS.kp lkS hcS bS scsaid rfl (.inl rfl) (said_gives (k := 0) D NN sd hG (hr.mono (by decide))) TB rfl hT hTu hr (lamS_by (sc := defScope s_law_asks_right) (by decide +kernel)) rfl (fun _ _ _ _ _ => rfl) (fun A outer s H E f c_ hr2 => (pe_meth (pv 0) D.c.cl D.m_ask Gm_ask (hr2.mono (by decide)) bm_ask .nil (passes_call (takes_of rfl rfl rfl rfl) fun _ _ _ _ h => h) (pa_cons pe_str (pa_cons pe_str (pa_cons (pv 1) pa_nil)))))) (pe_lst (pa_cons pe_str (pa_cons (pe_callB (r := rReprW) (call_reprW hG hu sd) rfl D.gR boot_rep (pa_cons (pv 1) pa_nil)) pa_nil))) (nomark _))
        (pss_one (ps_ret pe_bl))
        pss_nil)
      (pss_cons (ps_set (i := 3) sc_law_asks_right.nd rfl (Or.inl rfl) (pe_lst (pa_cons (pe_lamcall (k := 8) (T := Tb) rfl gS FS.kp lkS hcS bS scsaid rfl (.inl rfl) (said_gives (k := 0) D NN sd hG (hr.mono (by decide))) TB rfl hT hTu hr (lamS_by (sc := defScope s_law_asks_right) (by decide +kernel)) rfl (fun _ _ _ _ _ => rfl) (fun A outer s H E f c_ hr2 => (pe_meth (pv 0) D.c.cl D.m_ask Gm_ask (hr2.mono (by decide)) bm_ask .nil (passes_call (takes_of rfl rfl rfl rfl) fun _ _ _ _ h => h) (pa_cons (pv 1) (pa_cons pe_str (pa_cons pe_str pa_nil)))))) (pa_cons (pe_lamcall (k := 8) (T := Tb) rfl gS FS.kp lkS hcS bS scsaid rfl (.inl rfl) (said_gives (k := 0) D NN sd hG (hr.mono (by decide))) TB rfl hT hTu hr (lamS_by (sc := defScope s_law_asks_right) (by decide +kernel)) rfl (fun _ _ _ _ _ => rfl) (fun A outer s H E f c_ hr2 => (pe_meth (pv 0) D.c.cl D.m_add_class Gm_add_class (hr2.mono (by decide)) bm_add_class .nil (passes_call (takes_of rfl rfl rfl rfl) fun _ _ _ _ h => h) (pa_cons (pv 1) (pa_cons (pe_make D.mkC GZ (hr2.mono (by decide)) rfl D.hC bzC vzC pass0 (pa_cons pe_str pa_nil)) pa_nil))))) pa_nil))))
      (pss_cons (ps_expr (pe_bm PySem.F.plainAttrs_list PySem.F.slot_list_append PySem.F.type_list_append mt_append (pv 3) (pa_cons (pe_lamcall (k := 8) (T := Tb) rfl gS FS.kp lkS hcS bS scsaid rfl (.inl rfl) (said_gives (k := 0) D NN sd hG (hr.mono (by decide))) TB rfl hT hTu hr (lamS_by (sc := defScope s_law_asks_right) (by decide +kernel)) rfl (fun _ _ _ _ _ => rfl) (fun A outer s H E f c_ hr2 => (pe_meth (pv 0) D.c.cl D.m_ask Gm_ask (hr2.mono (by decide)) bm_ask .nil (passes_call (takes_of rfl rfl rfl rfl) fun _ _ _ _ h => h) (pa_cons (pv 1) (pa_cons pe_str (pa_cons pe_str pa_nil)))))) pa_nil)))
      (pss_cons (ps_expr (pe_bm PySem.F.plainAttrs_list PySem.F.slot_list_append PySem.F.type_list_append mt_append (pv 3) (pa_cons (pe_lamcall (k := 8) (T := Tb) rfl gS FS.kp lkS hcS bS scsaid rfl (.inl rfl) (said_gives (k := 0) D NN sd hG (hr.mono (by decide))) TB rfl hT hTu hr (lamS_by (sc := defScope s_law_asks_right) (by decide +kernel)) rfl (fun _ _ _ _ _ => rfl) (fun A outer s H E f c_ hr2 => (pe_meth (pv 0) D.c.cl D.m_add_class Gm_add_class (hr2.mono (by decide)) bm_add_class .nil (passes_call (takes_of rfl rfl rfl rfl) fun _ _ _ _ h => h) (pa_cons (pv 1) (pa_cons (pe_make D.mkC GZ (hr2.mono (by decide)) rfl D.hC bzC vzC pass0 (pa_cons pe_str pa_nil)) pa_nil))))) pa_nil)))
      (pss_one (ps_ret (pe_cmpR (op_eqD hr.units) (pv 3) (pe_op op_cat (pe_op op_rep (pe_lst (pa_cons (pe_lst (pa_cons pe_str (pa_cons (pe_callB (r := rReprW) (call_reprW hG hu sd) rfl D.gR boot_rep (pa_cons pe_str pa_nil)) pa_nil))) pa_nil)) pe_int) (pe_op op_rep (pe_lst (pa_cons (pe_lst (pa_cons pe_str (pa_cons (pe_callB (r := rReprW) (call_reprW hG hu sd) rfl D.gR boot_rep (pa_cons pe_str pa_nil)) pa_nil))) pa_nil)) pe_int)) (nomark _))))))))), ?_⟩
    have ntb : ∀ {xs : List V} (ps : Array Value), HO.lst xs ≠ .tbl ps := fun _ z => nomatch z
    obtain ⟨okla, shla, sola, _⟩ := hS.ok hla
    obtain ⟨ea, hea⟩ := ent_idx hS.a
    have oka : okD (.str "a") = true := by decide +kernel
    have okx : okD (.str "x") = true := by decide +kernel
    have cnx : cnD (.str "x") = true := by decide +kernel
    have okz : okD (.str "z") = true := by decide +kernel
    have cnz : cnD (.str "z") = true := by decide +kernel
    have SDx : ShowD (.str "x") := ShowD.of (by decide +kernel)
    have SDz : ShowD (.str "z") := ShowD.of (by decide +kernel)
    have SDl : ShowD (.str la) := ShowD.of shla
    have tkx : (hasT el "x" || hasA el "x") = true := by rw [hx]; rfl
    have tkz : (hasT el "z" || hasA el "z") = true := by rw [hz, Bool.or_true]
    refine ⟨_, rfl, le_line (by simp), fun q1 g1 => ⟨le_line (by simp), fun L hL => ⟨L, rfl, ⟨_, SqL.of upd_same⟩, ?_⟩⟩⟩
    have e1 := Evl.Ex.new (o := .lst [.str "a"]) g1
    have e2 := Evl.Ex.new (o := .lst [.str la, .str "q", .non, .ref q1]) hL
    have dL : DqAll _ [.str la, .str "q", .non, .ref q1] (oddK la) := .cons (.str _) (.cons (.str _) (.cons .non (.cons (.lst (e2 _ _ upd_same) (.cons (.str _) .nil)) .nil)))
    have hLs := at_new hL (.lst [.str la, .str "q", .non, .ref q1])
    have e12 := e1.trans e2
    generalize ([.str la, .str "q", .non, .ref q1] : List V) = vs1 at dL hLs e2 e12
    refine for_it (walk_list (xs := vs1)) (fun j σ' H' => ExtN H H' ∧ Tabs Tb H' ∧ H' L = some (.lst vs1) ∧ DqAll H' vs1 (oddK la) ∧ ∃ v1 v2, σ' = [some (.ref t), some (.str la), v1, v2]) ⟨ExtN.of e12, hTb.ext e12, hLs, dL, none, none, rfl⟩ (fun j σ H' _ h => SqL.of h.2.2.1) ?_ ?_
    · rintro j y σ _ H3 hj ⟨eN, tb, hLL, dL2, v1, v2, rfl⟩ ⟨rfl, hy⟩
      obtain ⟨d, hd, dy⟩ := dL2.get hy
      obtain ⟨hk, ok, sh, so⟩ := oddK_ok hS hla d (List.mem_of_getElem? hd)
      have SD := ShowD.of sh
      have eS : ExtN H3 H3 := ExtN.refl _
      refine ⟨tb, fun Ga ga ta => ?_⟩
      have hT4 := hT0.extN ((eN.trans eS).trans ga)
      obtain ⟨dt, ht⟩ := hT4.ob
      replace dy := dy.extN ga
      refine ⟨_, rfl, t, dt, _, rfl, ht, rfl, _, rfl, _, rfl, t, .str la, .str "x", y, .str la, .str "x", d, D1, D2, D3, S, rfl, hT4, .str _, okla, .inr ⟨inT_ent hel, .str _, okx, .inr ⟨cnx, dy, ok, ask_bad hla hel hk (rs_said (wd := "loader") (by simp [exTab]) dy SD fun R1 H6 e6 hR1 => ?_)⟩⟩⟩
      replace eS := (eS.trans ga).trans (ExtN.of e6)
      replace tb := ta.ext e6
      replace dy := dy.ext e6
      clear ht dt hT4 ga ta e6
      refine ⟨_, rfl, y, d, rfl, .q dy, SD.s, Nat.le_trans SD.z (by rw [sizeLine_eq]; decide), SD.p, le_line (by simp), fun R2 g => ?_⟩
      have en := Evl.Ex.new (o := .lst [.str "loader", .str d.shown]) g
      have hR2 := at_new g (.lst [.str "loader", .str d.shown])
      replace hR1 := en _ _ hR1
      replace eS := eS.trans (ExtN.of en)
      replace tb := tb.ext en
      replace dy := dy.ext en
      clear en g
      refine ne_same (dq2 hR1) (dq2 hR2) (shp2 _ _ (by decide +kernel) so) ⟨_, rfl, ifF rfl ?_⟩
      exact ⟨eN.trans eS, tb, eS _ _ hLL ntb, dL2.extN eS, _, _, rfl⟩
    rintro σ H2 ⟨eN, tb, _, _, v1, v2, rfl⟩
    clear dL hLs e12 e2 e1
    have eS : ExtN H2 H2 := ExtN.refl _
    refine ⟨tb, fun Ga ga ta => ?_⟩
    have hT4 := hT0.extN ((eN.trans eS).trans ga)
    obtain ⟨dt, ht⟩ := hT4.ob
    refine ⟨_, rfl, t, dt, _, rfl, ht, rfl, _, rfl, t, .str "a", .str "y", .str la, .str "a", .str "y", .str la, D1, D2, D3, S, rfl, hT4, .str _, oka, .inr ⟨hS.inA, .str _, by decide +kernel, .inr ⟨by decide +kernel, .str _, okla, .inr ⟨"a", "y", la, 0, il, ea, rfl, rfl, rfl, hS.a, hla, hea, .inl ⟨Nat.zero_le _, rs_said (wd := "loader") (by simp [exTab]) (.str _) SDl fun R1 H6 e6 hR1 => ?_⟩⟩⟩⟩⟩
    replace eS := (eS.trans ga).trans (ExtN.of e6)
    replace tb := ta.ext e6
    clear ht dt hT4 ga ta e6
    refine ⟨_, rfl, .str la, .str la, rfl, .q (.str _), SDl.s, Nat.le_trans SDl.z (by rw [sizeLine_eq]; decide), SDl.p, le_line (by simp), fun R2 g => ?_⟩
    have en := Evl.Ex.new (o := .lst [.str "loader", .str (PyData.str la).shown]) g
    have hR2 := at_new g (.lst [.str "loader", .str (PyData.str la).shown])
    replace hR1 := en _ _ hR1
    replace eS := eS.trans (ExtN.of en)
    replace tb := tb.ext en
    clear en g
    refine ne_same (dq2 hR1) (dq2 hR2) (shp2 _ _ (by decide +kernel) sola) ⟨_, rfl, ifF rfl ?_⟩
    clear hR1 hR2
    refine ⟨tb, fun Ga ga ta => ?_⟩
    have hT4 := hT0.extN ((eN.trans eS).trans ga)
    obtain ⟨dt, ht⟩ := hT4.ob
    refine ⟨_, rfl, t, dt, _, rfl, ht, rfl, _, rfl, t, .str la, .str "x", .str "a", .str la, .str "x", .str "a", D1, D2, D3, S, rfl, hT4, .str _, okla, .inr ⟨inT_ent hel, .str _, okx, .inr ⟨cnx, .str _, oka, .inr ⟨la, "x", "a", il, 0, el, rfl, rfl, rfl, hla, hS.a, hel, .inr ⟨hil, .inl ⟨tkx, rs_said (wd := "taken") (by simp [exTab]) (.str _) SDx fun R1 H6 e6 hR1 => ?_⟩⟩⟩⟩⟩⟩
    replace eS := (eS.trans ga).trans (ExtN.of e6)
    replace tb := ta.ext e6
    clear ht dt hT4 ga ta e6
    refine ⟨tb, fun Ga ga ta => ?_⟩
    have hT4 := hT0.extN ((eN.trans eS).trans ga)
    obtain ⟨dt, ht⟩ := hT4.ob
    refine ⟨_, rfl, t, dt, _, rfl, ht, rfl, _, rfl, fun c dc nc ndc hne => ⟨c, dc, "x", kdAt "marks" K, kdAt "fields" K, kdAt "methods" K, rfl, upd_same, cnx, okx, D.e1, D.e2, D.e3, fun Hc kc hc => ⟨rfl, t, .str la, .ref c, .str la, D1, D2, D3, S, rfl, hT4.ext (exMade nc ndc kc), .str _, okla, .inr ⟨la, el, rfl, hel, .inr ⟨c, dc, "x", kdAt "marks" K, kdAt "fields" K, kdAt "methods" K, rfl, hc, .inl ⟨tkx, rs_said (wd := "taken") (by simp [exTab]) (.str _) SDx fun R2 H6 e6 hR2 => ?_⟩⟩⟩⟩⟩⟩
    replace e6 := (exMade nc ndc kc).trans e6
    clear kc nc ndc hc hne
    replace eS := (eS.trans ga).trans (ExtN.of e6)
    replace tb := ta.ext e6
    replace hR1 := e6 _ _ (ga _ _ hR1 ntb)
    clear ht dt hT4 ga ta e6
    refine ⟨le_line (by simp), fun L1 g => ?_⟩
    have nL1 := newN eS g
    have en := Evl.Ex.new (o := .lst [.ref R1, .ref R2]) g
    have hL1 := at_new g (.lst [.ref R1, .ref R2])
    replace hR1 := en _ _ hR1
    replace hR2 := en _ _ hR2
    replace eS := eS.trans (ExtN.of en)
    replace tb := tb.ext en
    clear en g
    refine ⟨_, rfl, .inl ⟨rfl, _, SqL.of hL1⟩, ?_⟩
    refine ⟨tb, fun Ga ga ta => ?_⟩
    have hT4 := hT0.extN ((eN.trans eS).trans ga)
    obtain ⟨dt, ht⟩ := hT4.ob
    refine ⟨_, rfl, t, dt, _, rfl, ht, rfl, _, rfl, t, .str la, .str "z", .str "a", .str la, .str "z", .str "a", D1, D2, D3, S, rfl, hT4, .str _, okla, .inr ⟨inT_ent hel, .str _, okz, .inr ⟨cnz, .str _, oka, .inr ⟨la, "z", "a", il, 0, el, rfl, rfl, rfl, hla, hS.a, hel, .inr ⟨hil, .inl ⟨tkz, rs_said (wd := "taken") (by simp [exTab]) (.str _) SDz fun R3 H6 e6 hR3 => ?_⟩⟩⟩⟩⟩⟩
    replace eS := (eS.trans ga).trans (ExtN.of e6)
    replace tb := ta.ext e6
    replace hR1 := e6 _ _ (ga _ _ hR1 ntb)
    replace hR2 := e6 _ _ (ga _ _ hR2 ntb)
    replace hL1 := e6 _ _ (ga _ _ hL1 ntb)
    clear ht dt hT4 ga ta e6
    refine ⟨L1, [.ref R1, .ref R2], _, rfl, rfl, hL1, by rw [sizeLine_eq]; show 2 < 16777216; decide, ?_⟩
    replace hR1 := (upd_ne (o := .lst [.ref R1, .ref R2, .ref R3]) (ne_lst hR1 hL1)).trans hR1
    replace hR2 := (upd_ne (o := .lst [.ref R1, .ref R2, .ref R3]) (ne_lst hR2 hL1)).trans hR2
    replace hR3 := (upd_ne (o := .lst [.ref R1, .ref R2, .ref R3]) (ne_lst hR3 hL1)).trans hR3
    replace eS := ExtN.mut (o := .lst [.ref R1, .ref R2, .ref R3]) eS nL1
    replace tb := Tabs.mut (a := L1) (o := .lst [.ref R1, .ref R2, .ref R3]) tb (fun ps z => by rw [hL1] at z; cases z) (fun q z => by rw [hL1] at z; cases z)
    replace hL1 := at_upd hL1 (.lst [.ref R1, .ref R2, .ref R3])
    refine ⟨_, rfl, .inl ⟨rfl, _, SqL.of hL1⟩, ?_⟩
    refine ⟨tb, fun Ga ga ta => ?_⟩
    have hT4 := hT0.extN ((eN.trans eS).trans ga)
    obtain ⟨dt, ht⟩ := hT4.ob
    refine ⟨_, rfl, t, dt, _, rfl, ht, rfl, _, rfl, fun c dc nc ndc hne => ⟨c, dc, "z", kdAt "marks" K, kdAt "fields" K, kdAt "methods" K, rfl, upd_same, cnz, okz, D.e1, D.e2, D.e3, fun Hc kc hc => ⟨rfl, t, .str la, .ref c, .str la, D1, D2, D3, S, rfl, hT4.ext (exMade nc ndc kc), .str _, okla, .inr ⟨la, el, rfl, hel, .inr ⟨c, dc, "z", kdAt "marks" K, kdAt "fields" K, kdAt "methods" K, rfl, hc, .inl ⟨tkz, rs_said (wd := "taken") (by simp [exTab]) (.str _) SDz fun R4 H6 e6 hR4 => ?_⟩⟩⟩⟩⟩⟩
    replace e6 := (exMade nc ndc kc).trans e6
    clear kc nc ndc hc hne
    replace eS := (eS.trans ga).trans (ExtN.of e6)
    replace tb := ta.ext e6
    replace hR1 := e6 _ _ (ga _ _ hR1 ntb)
    replace hR2 := e6 _ _ (ga _ _ hR2 ntb)
    replace hR3 := e6 _ _ (ga _ _ hR3 ntb)
    replace hL1 := e6 _ _ (ga _ _ hL1 ntb)
    clear ht dt hT4 ga ta e6
    refine ⟨L1, [.ref R1, .ref R2, .ref R3], _, rfl, rfl, hL1, by rw [sizeLine_eq]; show 3 < 16777216; decide, ?_⟩
    replace hR1 := (upd_ne (o := .lst [.ref R1, .ref R2, .ref R3, .ref R4]) (ne_lst hR1 hL1)).trans hR1
    replace hR2 := (upd_ne (o := .lst [.ref R1, .ref R2, .ref R3, .ref R4]) (ne_lst hR2 hL1)).trans hR2
    replace hR3 := (upd_ne (o := .lst [.ref R1, .ref R2, .ref R3, .ref R4]) (ne_lst hR3 hL1)).trans hR3
    replace hR4 := (upd_ne (o := .lst [.ref R1, .ref R2, .ref R3, .ref R4]) (ne_lst hR4 hL1)).trans hR4
    replace eS := ExtN.mut (o := .lst [.ref R1, .ref R2, .ref R3, .ref R4]) eS nL1
    replace tb := Tabs.mut (a := L1) (o := .lst [.ref R1, .ref R2, .ref R3, .ref R4]) tb (fun ps z => by rw [hL1] at z; cases z) (fun q z => by rw [hL1] at z; cases z)
    replace hL1 := at_upd hL1 (.lst [.ref R1, .ref R2, .ref R3, .ref R4])
    refine ⟨_, rfl, ?_⟩
    refine ⟨.str "x", .str "x", rfl, .q (.str _), SDx.s, Nat.le_trans SDx.z (by rw [sizeLine_eq]; decide), SDx.p, le_line (by simp), fun R5 g => ?_⟩
    have en := Evl.Ex.new (o := .lst [.str "taken", .str (PyData.str "x").shown]) g
    have hR5 := at_new g (.lst [.str "taken", .str (PyData.str "x").shown])
    replace hR1 := en _ _ hR1
    replace hR2 := en _ _ hR2
    replace hR3 := en _ _ hR3
    replace hR4 := en _ _ hR4
    replace hL1 := en _ _ hL1
    replace eS := eS.trans (ExtN.of en)
    replace tb := tb.ext en
    clear en g
    refine ⟨le_line (by simp), fun L2 g => ?_⟩
    have en := Evl.Ex.new (o := .lst [.ref R5]) g
    have hL2 := at_new g (.lst [.ref R5])
    replace hR1 := en _ _ hR1
    replace hR2 := en _ _ hR2
    replace hR3 := en _ _ hR3
    replace hR4 := en _ _ hR4
    replace hL1 := en _ _ hL1
    replace hR5 := en _ _ hR5
    replace eS := eS.trans (ExtN.of en)
    replace tb := tb.ext en
    clear en g
    refine ⟨L2, 2, _, rfl, rfl, hL2, by decide, by decide, by rw [sizeLine_eq]; show 1 * 2 ≤ 16777216; decide, fun L3 g => ?_⟩
    have en := Evl.Ex.new (o := .lst [.ref R5, .ref R5]) g
    have hL3 := at_new g (.lst [.ref R5, .ref R5])
    replace hR1 := en _ _ hR1
    replace hR2 := en _ _ hR2
    replace hR3 := en _ _ hR3
    replace hR4 := en _ _ hR4
    replace hL1 := en _ _ hL1
    replace hR5 := en _ _ hR5
    replace eS := eS.trans (ExtN.of en)
    replace tb := tb.ext en
    clear en g
    refine ⟨.str "z", .str "z", rfl, .q (.str _), SDz.s, Nat.le_trans SDz.z (by rw [sizeLine_eq]; decide), SDz.p, le_line (by simp), fun R6 g => ?_⟩
    have en := Evl.Ex.new (o := .lst [.str "taken", .str (PyData.str "z").shown]) g
    have hR6 := at_new g (.lst [.str "taken", .str (PyData.str "z").shown])
    replace hR1 := en _ _ hR1
    replace hR2 := en _ _ hR2
    replace hR3 := en _ _ hR3
    replace hR4 := en _ _ hR4
    replace hL1 := en _ _ hL1
    replace hR5 := en _ _ hR5
    replace hL3 := en _ _ hL3
    replace eS := eS.trans (ExtN.of en)
    replace tb := tb.ext en
    clear en g
    refine ⟨le_line (by simp), fun L4 g => ?_⟩
    have en := Evl.Ex.new (o := .lst [.ref R6]) g
    have hL4 := at_new g (.lst [.ref R6])
    replace hR1 := en _ _ hR1
    replace hR2 := en _ _ hR2
    replace hR3 := en _ _ hR3
    replace hR4 := en _ _ hR4
    replace hL1 := en _ _ hL1
    replace hR5 := en _ _ hR5
    replace hL3 := en _ _ hL3
    replace hR6 := en _ _ hR6
    replace eS := eS.trans (ExtN.of en)
    replace tb := tb.ext en
    clear en g
    refine ⟨L4, 2, _, rfl, rfl, hL4, by decide, by decide, by rw [sizeLine_eq]; show 1 * 2 ≤ 16777216; decide, fun L5 g => ?_⟩
    have en := Evl.Ex.new (o := .lst [.ref R6, .ref R6]) g
    have hL5 := at_new g (.lst [.ref R6, .ref R6])
    replace hR1 := en _ _ hR1
    replace hR2 := en _ _ hR2
    replace hR3 := en _ _ hR3
    replace hR4 := en _ _ hR4
    replace hL1 := en _ _ hL1
    replace hR5 := en _ _ hR5
    replace hL3 := en _ _ hL3
    replace hR6 := en _ _ hR6
    replace eS := eS.trans (ExtN.of en)
    replace tb := tb.ext en
    clear en g
    refine ⟨L3, L5, _, _, rfl, rfl, hL3, hL5, le_line (by simp), fun L6 g => ?_⟩
    have en := Evl.Ex.new (o := .lst [.ref R5, .ref R5, .ref R6, .ref R6]) g
    have hL6 := at_new g (.lst [.ref R5, .ref R5, .ref R6, .ref R6])
    replace hR1 := en _ _ hR1
    replace hR2 := en _ _ hR2
    replace hR3 := en _ _ hR3
    replace hR4 := en _ _ hR4
    replace hL1 := en _ _ hL1
    replace hR5 := en _ _ hR5
    replace hR6 := en _ _ hR6
    replace eS := eS.trans (ExtN.of en)
    replace tb := tb.ext en
    clear en g
    exact eq_same (d := .list [.list [.str "taken", .str (PyData.str "x").shown], .list [.str "taken", .str (PyData.str "x").shown], .list [.str "taken", .str (PyData.str "z").shown], .list [.str "taken", .str (PyData.str "z").shown]]) (.lst hL1 (.cons (dq2 hR1) (.cons (dq2 hR2) (.cons (dq2 hR3) (.cons (dq2 hR4) .nil))))) (.lst hL6 (.cons (dq2 hR5) (.cons (dq2 hR5) (.cons (dq2 hR6) (.cons (dq2 hR6) .nil))))) (by decide +kernel) (hQ _ (eN.trans eS) tb)
end
end K06

set_option Elab.async false
set_option linter.all false
set_option maxRecDepth 100000
set_option maxHeartbeats 0
/-! the law -/
namespace K06
open PySem PySem.Spec PyProof.Rows L2 EX2 TX LamX
/-- nothing that stays stands at a -/
def NewIn (H : Hp) (a : Addr) : Prop := ∀ o, H a = some o → ∃ ps, o = .tbl ps
theorem mutN {H0 H H' : Hp} (As : List Addr) (e : ExtN H0 H) (fr : ∀ a ∈ As, NewIn H0 a) (k : ∀ b o, (∀ a ∈ As, b ≠ a) → H b = some o → H' b = some o) : ExtN H0 H' := fun b o hb nt => by
  refine k b o (fun a ha q => ?_) (e _ _ hb nt)
  rw [q] at hb
  obtain ⟨ps, z⟩ := fr a ha _ hb
  exact nt ps z
theorem tabsN {Tb : List (Addr × Str)} {H H' : Hp} (As : List Addr) (t : Tabs Tb H) (hA : ∀ a ∈ As, ∃ kvs, H a = some (.dK kvs)) (k : ∀ b o, (∀ a ∈ As, b ≠ a) → H b = some o → H' b = some o) : Tabs Tb H' := fun p hp => by
  obtain ⟨ps, h1, h2, h3⟩ := t p hp
  refine ⟨ps, k _ _ (fun a ha q => ?_) h1, h2, fun pos cv hc => ?_⟩
  · obtain ⟨kvs, h⟩ := hA a ha
    rw [q, h] at h1
    cases h1
  obtain ⟨c, hc1, hc2⟩ := h3 pos cv hc
  refine ⟨c, hc1, k _ _ (fun a ha q => ?_) hc2⟩
  obtain ⟨kvs, h⟩ := hA a ha
  rw [q, h] at hc2
  cases hc2
theorem keepN {H H' : Hp} (As : List Addr) (hA : ∀ a ∈ As, ∃ kvs, H a = some (.dK kvs)) (k : ∀ b o, (∀ a ∈ As, b ≠ a) → H b = some o → H' b = some o) {b : Addr} {o : HO} (n : ∀ kvs, o ≠ .dK kvs) (h : H b = some o) : H' b = some o :=
  k b o (fun a ha q => by
    obtain ⟨kvs, h2⟩ := hA a ha
    rw [q, h2] at h
    cases h
    exact n _ rfl) h
def FrS (H : Hp) (S : List Ent) : Prop := ∀ e ∈ S, NewIn H e.T ∧ NewIn H e.A
theorem FrS.upd {H : Hp} {S : List Ent} (h : FrS H S) {z : Str} {g : Ent → Ent} (g2 : ∀ e, (g e).T = e.T) (g3 : ∀ e, (g e).A = e.A) : FrS H (updE S z g) := fun e he => by
  obtain ⟨e0, h0, rfl⟩ := mem_updE he
  split
  · rw [g2, g3]; exact h e0 h0
  · exact h e0 h0
theorem idx_upd {S : List Ent} {z y : Str} {g : Ent → Ent} (g1 : ∀ e, (g e).name = e.name) {i : Nat} (h : Idx S y i) : Idx (updE S z g) y i := by
  show ((updE S z g).map (·.name))[i]? = some y
  rw [map_updE g1]
  exact h
theorem nms_upd {S : List Ent} {z : Str} {g : Ent → Ent} (g1 : ∀ e, (g e).name = e.name) (h : NmS S) : NmS (updE S z g) := h.of (map_updE g1)
theorem hasT_mem (e : Ent) (n : Str) : hasT e n = decide (n ∈ e.ts.map (·.1)) := by
  unfold hasT
  cases q : e.ts.find? fun q => decide (q.1 = n) with
  | some x =>
    have h1 := List.mem_of_find?_eq_some q
    have h2 := List.find?_some q
    simp only [decide_eq_true_eq] at h2
    exact (decide_eq_true (List.mem_map.mpr ⟨x, h1, h2⟩)).symm
  | none =>
    refine (decide_eq_false fun hm => ?_).symm
    obtain ⟨x, hx, hn⟩ := List.mem_map.mp hm
    have := List.find?_eq_none.mp q x hx
    simp [hn] at this
theorem hasA_mem (e : Ent) (n : Str) : hasA e n = decide (n ∈ e.as.map (·.1)) := by
  unfold hasA
  cases q : e.as.find? fun q => decide (q.1 = n) with
  | some x =>
    have h1 := List.mem_of_find?_eq_some q
    have h2 := List.find?_some q
    simp only [decide_eq_true_eq] at h2
    exact (decide_eq_true (List.mem_map.mpr ⟨x, h1, h2⟩)).symm
  | none =>
    refine (decide_eq_false fun hm => ?_).symm
    obtain ⟨x, hx, hn⟩ := List.mem_map.mp hm
    have := List.find?_eq_none.mp q x hx
    simp [hn] at this
theorem TbX.keepL {C : Addr} {H H' : Hp} {t D1 D2 D3 : Addr} {S : List Ent} (h : TbX C H t D1 D2 D3 S) (k : ∀ b o, (∀ xs, o ≠ .lst xs) → H b = some o → H' b = some o) : TbX C H' t D1 D2 D3 S := by
  obtain ⟨dt, ht⟩ := h.ob
  exact ⟨⟨dt, k _ _ (fun _ z => nomatch z) ht⟩, k _ _ (fun _ z => nomatch z) h.h1, k _ _ (fun _ z => nomatch z) h.h2, k _ _ (fun _ z => nomatch z) h.h3, fun x hx => ⟨k _ _ (fun _ z => nomatch z) (h.h4 x hx).1, k _ _ (fun _ z => nomatch z) (h.h4 x hx).2⟩, h.ap, h.nn⟩
theorem upd_keepL {H : Hp} {p : Addr} {xs : List V} (hp : H p = some (.lst xs)) (o : HO) : ∀ b o2, (∀ xs, o2 ≠ .lst xs) → H b = some o2 → upd H p o b = some o2 := fun b o2 n h => by
  have : b ≠ p := by rintro rfl; rw [hp] at h; cases h; exact n _ rfl
  rw [upd_ne this]; exact h
def LV : List V := [.str "a", .str "b", .str "c", .str "d", .str "e", .str "f", .str "g", .str "h"]
theorem cut_LV {d : Int} (h0 : 0 ≤ d) (h1 : d < 7) : ∃ n : Nat, 2 ≤ n ∧ n ≤ 8 ∧ cutV LV none (some (2 + d)) = (letters8.take n).map V.str := by
  have : d = 0 ∨ d = 1 ∨ d = 2 ∨ d = 3 ∨ d = 4 ∨ d = 5 ∨ d = 6 := by omega
  rcases this with rfl | rfl | rfl | rfl | rfl | rfl | rfl
  · exact ⟨2, by decide, by decide, by decide +kernel⟩
  · exact ⟨3, by decide, by decide, by decide +kernel⟩
  · exact ⟨4, by decide, by decide, by decide +kernel⟩
  · exact ⟨5, by decide, by decide, by decide +kernel⟩
  · exact ⟨6, by decide, by decide, by decide +kernel⟩
  · exact ⟨7, by decide, by decide, by decide +kernel⟩
  · exact ⟨8, by decide, by decide, by decide +kernel⟩
theorem notin_pref {S : List Ent} {n i : Nat} {z : Str} (hn : S.map (·.name) = (letters8.take n).take i) (hz : (letters8.take n)[i]? = some z) : inT S (.str z) = false := by
  cases q : inT S (.str z) with
  | false => rfl
  | true =>
    obtain ⟨e, he⟩ : ∃ e, ent S z = some e := Option.isSome_iff_exists.mp q
    have h1 : z ∈ S.map (·.name) := List.mem_map.mpr ⟨e, ent_mem he, ent_name he⟩
    rw [hn] at h1
    obtain ⟨m, hm, hm2⟩ := List.mem_take_iff_getElem.mp h1
    obtain ⟨l2, e2⟩ := List.getElem?_eq_some_iff.mp hz
    have nd : (letters8.take n).Nodup := List.Sublist.nodup (List.take_sublist n letters8) (by decide)
    exact absurd (hm2.trans e2.symm) ((List.pairwise_iff_getElem.mp nd) m i (by omega) l2 (by omega))
theorem let_ok : ∀ z ∈ letters8, nameD (.str z) = true ∧ okD (.str z) = true := by decide +kernel
def signsS : Str := "abcdefghijklmnopqrstuvwxyz"
/-- the text's name at a turn -/
def nmQ (j : Nat) : Str := ("q" : Str) ++ (⟨#[signsS.cps.toList.getD (j / 26) 0]⟩ : Str) ++ (⟨#[signsS.cps.toList.getD (j % 26) 0]⟩ : Str)
theorem nmQ_ok : ∀ j < 39, cnD (.str (nmQ j)) = true ∧ okD (.str (nmQ j)) = true ∧ nmQ j ≠ ("x" : Str) ∧ nmQ j ≠ ("z" : Str) ∧ nmQ j ∉ (List.range j).map nmQ := by decide +kernel
theorem moreOk : ("more" : Str) ∉ ("x" : Str) :: (List.range 39).map nmQ := by decide +kernel
theorem sg_at : ∀ j : Nat, j < 39 → atI signsS.cps.toList ((0 + (j : Int)) / 26) = some (signsS.cps.toList.getD (j / 26) 0) ∧ atI signsS.cps.toList ((0 + (j : Int)) % 26) = some (signsS.cps.toList.getD (j % 26) 0) := by decide +kernel
structure LwF (P : Program) (w : World) (K : PySem.W.Frag) (mg : Str → Option Value) (base : Heap) (Tb : List (Addr × Str)) : Prop where
  lr : ∃ f fd, mg "_law_loaders_right" = some (.ref f) ∧ FnP K "_law_loaders_right" s_law_loaders_right f fd ∧ FnOkG P w K mg base 11 f fd ["_law_tables", "_law_many"] (spLR K Tb)
  pr : ∃ f fd, mg "_law_parts_right" = some (.ref f) ∧ FnP K "_law_parts_right" s_law_parts_right f fd ∧ FnOkG P w K mg base 11 f fd ["_law_tables", "_law_last"] (spPR K Tb)
  ar : ∃ f fd, mg "_law_asks_right" = some (.ref f) ∧ FnP K "_law_asks_right" s_law_asks_right f fd ∧ FnOkG P w K mg base 11 f fd ["_law_tables", "_law_last"] (spAR K Tb)
def spLaw (K : PySem.W.Frag) (Tb : List (Addr × Str)) : Sp := fun vs H Q _ => ∃ (a : Addr) (ns : List Int), vs = [.ref a] ∧ SqL K H a (ns.map V.int) ∧ ns.length ≤ 100000 ∧ Tabs Tb H ∧ ∀ H', Q (.bl true) H'
theorem sqL_exN {K : PySem.W.Frag} {H H' : Hp} {a : Addr} {xs : List V} (e : ExtN H H') (h : SqL K H a xs) : SqL K H' a xs := by
  rcases h with (h | ⟨o, h⟩) | h
  · exact .inl (.inl (e _ _ h (fun _ z => nomatch z)))
  · exact .inl (.inr ⟨o, e _ _ h (fun _ z => nomatch z)⟩)
  · exact .inr h
section
variable {P : Program} {w : World} {K : PySem.W.Frag} {mg : Str → Option Value} {base : Heap} {f : Addr} {fd : FuncData}
abbrev slaw : Stmt := top 49
abbrev nlaw : List Str := ["_law_script", "_law_turn", "_law_source_here", "_law_tables", "_law_names", "_law_name", "_law_last", "_law_saved", "_law_signs", "_law_at"]
theorem sclaw : FnScope nlaw ["_law_script"] (defScope slaw) := ⟨rfl, rfl, rfl, by decide +kernel, rfl, by decide +kernel, by decide +kernel⟩
theorem oklaw {cC cT : Addr} {Tb : List (Addr × Str)} (F : FnP K "law" slaw f fd) (hcd : ∀ cdv, CodeAt K f cdv → cdv = .ref cC) (TB : TabB base mg cC cT) (hT : (cT, qOf "law" slaw) ∈ Tb) (hTu : ∀ p ∈ Tb, p.1 = cT → p.2 = qOf "law" slaw) (D : TK P w K mg base) (NN : NamesNe K) (sd : SysD base) (said : ∃ f fd, mg "_law_said" = some (.ref f) ∧ FnP K "_law_said" ssaid f fd) (LW : LwF P w K mg base Tb) : FnOkG P w K mg base 12 f fd ["_law_script"] (spLaw K Tb) := by
  have T := D.t
  obtain ⟨fS, fdS, gS, FS⟩ := said
  have bS : Binds K fdS ["_law_call"] [] := FS.bindsN fun _ _ _ _ _ _ us hl => match us, hl with | [_], _ => rfl
  obtain ⟨f_law_source, fd_law_source, g_law_source, F_law_source⟩ := D.d.source
  have G_law_source : FnOk P w K mg base CX0 1 _ _ ["_law_script", "_law_turn"] (spSource K) := ok_source F_law_source D.t
  have b_law_source : Binds K fd_law_source ["_law_script", "_law_turn"] [] := F_law_source.bindsN fun _ _ _ _ _ _ us hl => match us, hl with | [_, _], _ => rfl
  obtain ⟨f_law_draw, fd_law_draw, g_law_draw, F_law_draw⟩ := D.d.draw
  have G_law_draw : FnOk P w K mg base CX0 1 _ _ ["_law_source_here", "_law_amount"] spDraw := ok_draw F_law_draw D.t
  have b_law_draw : Binds K fd_law_draw ["_law_source_here", "_law_amount"] [] := F_law_draw.bindsN fun _ _ _ _ _ _ us hl => match us, hl with | [_, _], _ => rfl
  obtain ⟨f_law_loaders_right, fd_law_loaders_right, g_law_loaders_right, F_law_loaders_right, G_law_loaders_right⟩ := LW.lr
  have b_law_loaders_right : Binds K fd_law_loaders_right ["_law_tables", "_law_many"] [] := F_law_loaders_right.bindsN fun _ _ _ _ _ _ us hl => match us, hl with | [_, _], _ => rfl
  obtain ⟨f_law_parts_right, fd_law_parts_right, g_law_parts_right, F_law_parts_right, G_law_parts_right⟩ := LW.pr
  have b_law_parts_right : Binds K fd_law_parts_right ["_law_tables", "_law_last"] [] := F_law_parts_right.bindsN fun _ _ _ _ _ _ us hl => match us, hl with | [_, _], _ => rfl
  obtain ⟨f_law_asks_right, fd_law_asks_right, g_law_asks_right, F_law_asks_right, G_law_asks_right⟩ := LW.ar
  have b_law_asks_right : Binds K fd_law_asks_right ["_law_tables", "_law_last"] [] := F_law_asks_right.bindsN fun _ _ _ _ _ _ us hl => match us, hl with | [_, _], _ => rfl
  obtain ⟨fdI, FI⟩ := D.f___init__
  have GI := okTables___init__ (P := P) (w := w) (base := base) FI D.d D.c
  have bI : Binds K fdI ["self"] [] := FunD.bindsN FI fun _ _ _ _ _ _ us hl => match us, hl with | [_], _ => rfl
  obtain ⟨fdQ, FQ⟩ := D.f___eq__
  have GQ := okTables___eq__ (P := P) (w := w) (base := base) FQ D
  have bQ : Binds K fdQ ["self", "other"] [] := FunD.bindsN FQ fun _ _ _ _ _ _ us hl => match us, hl with | [_, _], _ => rfl
  obtain ⟨fdQ2, FQ2⟩ := D.fc___eq__
  have GQ2 := okClassText___eq__ (P := P) (w := w) (base := base) FQ2 D
  have bQ2 : Binds K fdQ2 ["self", "other"] [] := FunD.bindsN FQ2 fun _ _ _ _ _ _ us hl => match us, hl with | [_, _], _ => rfl
  obtain ⟨pC, fdC, FC⟩ := D.cls
  have GC := okLoader_classes (P := P) (w := w) (base := base) FC D
  have bC : Binds K fdC ["self"] [] := FunD.bindsN FC fun _ _ _ _ _ _ us hl => match us, hl with | [_], _ => rfl
  obtain ⟨fdm_add_class, Fm_add_class⟩ := D.f_add_class
  have Gm_add_class := okTables_add_class (P := P) (w := w) (base := base) Fm_add_class D
  have bm_add_class : Binds K fdm_add_class ["self", "loader", "text"] [] := FunD.bindsN Fm_add_class fun _ _ _ _ _ _ us hl => match us, hl with | [_, _, _], _ => rfl
  obtain ⟨fdZ, FZ⟩ := D.initC
  have GZ := okClassText___init__ (P := P) (w := w) (base := base) FZ D.d D.hMe D.ct
  obtain ⟨dzC, vzC, bzC⟩ := ctz0 FZ
  obtain ⟨fdm_text, Fm_text⟩ := D.f_text
  have Gm_text := okTables_text (P := P) (w := w) (base := base) Fm_text D
  have bm_text : Binds K fdm_text ["self", "loader", "name"] [] := FunD.bindsN Fm_text fun _ _ _ _ _ _ us hl => match us, hl with | [_, _, _], _ => rfl
  obtain ⟨fdm_copy, Fm_copy⟩ := D.f_copy
  have Gm_copy := okTables_copy (P := P) (w := w) (base := base) Fm_copy D
  have bm_copy : Binds K fdm_copy ["self"] [] := FunD.bindsN Fm_copy fun _ _ _ _ _ _ us hl => match us, hl with | [_], _ => rfl
  obtain ⟨fdm_ask, Fm_ask⟩ := D.f_ask
  have Gm_ask := okTables_ask (P := P) (w := w) (base := base) Fm_ask D
  have bm_ask : Binds K fdm_ask ["self", "loader", "name", "other"] [] := FunD.bindsN Fm_ask fun _ _ _ _ _ _ us hl => match us, hl with | [_, _, _, _], _ => rfl
  obtain ⟨fdm_add_loader, Fm_add_loader⟩ := D.f_add_loader
  have Gm_add_loader := okTables_add_loader (P := P) (w := w) (base := base) Fm_add_loader D
  obtain ⟨dz, vz, bz⟩ := addl0 Fm_add_loader
  obtain ⟨mv, kb⟩ := addlK Fm_add_loader
  obtain ⟨fdm___getitem__, Fm___getitem__⟩ := D.f___getitem__
  have Gm___getitem__ := okTables___getitem__ (P := P) (w := w) (base := base) Fm___getitem__ D
  have bm___getitem__ : Binds K fdm___getitem__ ["self", "name"] [] := FunD.bindsN Fm___getitem__ fun _ _ _ _ _ _ us hl => match us, hl with | [_, _], _ => rfl
  refine EX2.okGC F sclaw (fun vs H Q E h => ?_) (fun cdv A outer s H vs Q E hc hg hr h => ?_)
  · obtain ⟨a, ns, rfl, _⟩ := h
    rfl
  · obtain ⟨a, ns, rfl, hS, hns, hTb, hQ⟩ := h
    obtain rfl := hcd cdv hc
    have hG : (A.deeper (envOfC "law" (defScope slaw) s.heap.objs.size f (.ref cC))).guards = some [] := by rw [EX2.guards_deeper]; exact hg
    have hu : (A.deeper (envOfC "law" (defScope slaw) s.heap.objs.size f (.ref cC))).units + 65 < cLine := by have := hr.un; omega
    obtain ⟨oc, od, dV, kV, doc, pm, an, cdR, ct, osl, rfl, lkS, hcS, _⟩ := FS.ex
    refine ⟨_, PSs.nox (pss_cons (ps_for PassesOwn.never rfl (pi_range1 rfl T.rng (pa_cons (pe_callB (call_max2 rfl) rfl T.max boot_max (pa_cons pe_int (pa_cons (pe_callB (call_min2 rfl) rfl T.min boot_min (pa_cons (pe_callB call_len rfl T.len boot_len (pa_cons (pv 0) pa_nil)) (pa_cons pe_int pa_nil))) pa_nil))) pa_nil)) (pg_name (i := 1) sclaw.nd rfl (Or.inl rfl))
        (pss_cons (ps_set (i := 2) sclaw.nd rfl (Or.inl rfl) (pe_call G_law_source (hr.mono (by decide)) rfl g_law_source F_law_source.kp b_law_source .nil pass0 (pa_cons (pv 0) (pa_cons (pv 1) pa_nil))))
        (pss_cons (ps_asg (pe_tup (pa_cons (pe_make0 D.mkT GI (hr.mono (by decide)) rfl D.hT bI .nil pass0) (pa_cons (pe_slice sl_list (pe_lst (pa_cons pe_str (pa_cons pe_str (pa_cons pe_str (pa_cons pe_str (pa_cons pe_str (pa_cons pe_str (pa_cons pe_str (pa_cons pe_str pa_nil))))))))) po_none (po_some (pe_op op_add pe_int (pe_call G_law_draw (hr.mono (by decide)) rfl g_law_draw F_law_draw.kp b_law_draw .nil pass0 (pa_cons (pv 2) (pa_cons pe_int pa_nil)))))) pa_nil))) (pg_tup rfl (pgs_cons (pg_name (i := 3) sclaw.nd rfl (Or.inr rfl)) (pgs_cons (pg_name (i := 4) sclaw.nd rfl (Or.inl rfl)) pgs_nil))))
        (pss_cons (ps_for PassesOwn.never rfl (pi_list (pv 4)) (pg_name (i := 5) sclaw.nd rfl (Or.inl rfl))
          (pss_one (ps_expr (pe_meth (pv 3) D.c.cl D.m_add_loader Gm_add_loader (hr.mono (by decide)) bz vz passL (pa_cons (pv 5) pa_nil)))))
        (pss_cons (ps_set (i := 6) sclaw.nd rfl (Or.inr rfl) (pe_ix ix_list (pv 4) (pe_op op_add pe_int (pe_call G_law_draw (hr.mono (by decide)) rfl g_law_draw F_law_draw.kp b_law_draw .nil pass0 (pa_cons (pv 2) (pa_cons (pe_op op_sub (pe_callB call_len rfl T.len boot_len (pa_cons (pv 4) pa_nil)) pe_int) pa_nil)))) (fun _ _ => rfl)))
        (pss_cons (ps_set (i := 7) sclaw.nd rfl (Or.inl rfl) (pe_meth0 (pv 3) D.c.cl D.m_copy Gm_copy (hr.mono (by decide)) bm_copy .nil pass0))
        (pss_cons (ps_if (PW.pt (pw_or (pt_not (pt_val (pe_callG G_law_loaders_right hG (hr.mono (by decide)) rfl g_law_loaders_right F_law_loaders_right.kp b_law_loaders_right (pa_cons (pv 3) (pa_cons (pe_callB call_len rfl T.len boot_len (pa_cons (pv 4) pa_nil)) pa_nil))))) (pw_or (pt_not (pt_val (pe_callG G_law_parts_right hG (hr.mono (by decide)) rfl g_law_parts_right F_law_parts_right.kp b_law_parts_right (pa_cons (pv 3) (pa_cons (pv 6) pa_nil))))) (pw_or1 (pt_not (pt_cmpR (op_eqI GQ D.m___eq__.at_ D.m___eq__.fn bQ (hr.mono (by decide))) (pv 3) (pv 7) (nomark _)))))))
          (pss_one (ps_ret pe_bl))
          pss_nil)
        (pss_cons (ps_expr (pe_meth (pv 3) D.c.cl D.m_add_class Gm_add_class (hr.mono (by decide)) bm_add_class .nil passL (pa_cons (pv 6) (pa_cons (pe_make D.mkC GZ (hr.mono (by decide)) rfl D.hC bzC vzC pass0 (pa_cons pe_str pa_nil)) pa_nil))))
        (pss_cons (ps_expr (pe_meth (pv 3) D.c.cl D.m_ask Gm_ask (hr.mono (by decide)) bm_ask .nil passL (pa_cons (pv 6) (pa_cons pe_str (pa_cons pe_str pa_nil)))))
        (pss_cons (ps_set (i := 7) sclaw.nd rfl (Or.inl rfl) (pe_meth0 (pv 3) D.c.cl D.m_copy Gm_copy (hr.mono (by decide)) bm_copy .nil pass0))
        (pss_cons (ps_if (PW.pt (pw_or (pt_not (pt_val (pe_callG G_law_asks_right hG (hr.mono (by decide)) rfl g_law_asks_right F_law_asks_right.kp b_law_asks_right (pa_cons (pv 3) (pa_cons (pv 6) pa_nil))))) (pw_or1 (pt_not (pt_cmpR (op_eqI GQ D.m___eq__.at_ D.m___eq__.fn bQ (hr.mono (by decide))) (pv 3) (pv 7) (nomark _))))))
          (pss_one (ps_ret pe_bl))
          pss_nil)
        (pss_cons (ps_set (i := 8) sclaw.nd rfl (Or.inl rfl) pe_str)
        (pss_cons (ps_for PassesOwn.never rfl (pi_range1 rfl T.rng (pa_cons pe_int pa_nil)) (pg_name (i := 9) sclaw.nd rfl (Or.inl rfl))
          (pss_one (ps_expr (pe_meth (pv 3) D.c.cl D.m_add_class Gm_add_class (hr.mono (by decide)) bm_add_class .nil passL (pa_cons (pv 6) (pa_cons (pe_make D.mkC GZ (hr.mono (by decide)) rfl D.hC bzC vzC pass0 (pa_cons (pe_op op_add_str (pe_op op_add_str pe_str (pe_ix ix_str (pv 8) (pe_op op_fdiv (pv 9) pe_int) (fun _ _ => rfl))) (pe_ix ix_str (pv 8) (pe_op op_mod (pv 9) pe_int) (fun _ _ => rfl))) pa_nil)) pa_nil))))))
        (pss_cons (ps_if (pt_cmpR (op_neD hr.units) (pe_lamcall (k := 8) (T := Tb) rfl gS FS.kp lkS hcS bS scsaid rfl (.inl rfl) (said_gives (k := 0) D NN sd hG (hr.mono (by decide))) TB rfl hT hTu (hr.mono (by decide)) (lamS_by (sc := defScope slaw) (by decide +kernel)) rfl (fun _ _ _ _ _ => rfl) (fun A outer s H E f c_ hr2 => (pe_meth (pv 3) D.c.cl D.m_add_class Gm_add_class (hr2.mono (by decide)) bm_add_class .nil (passes_call (takes_of rfl rfl rfl rfl) fun _ _ _ _ h => h) (pa_cons (pv 6) (pa_cons (pe_make D.mkC GZ (hr2.mono (by decide)) rfl D.hC bzC vzC pass0 (pa_cons pe_str pa_nil)) pa_nil))))) (pe_lst (pa_cons pe_str (pa_cons pe_str pa_nil))) (nomark _))
          (pss_one (ps_ret pe_bl))
          pss_nil)
        (pss_cons (ps_if (pt_cmpR (op_neD hr.units) (pe_lamcall (k := 8) (T := Tb) rfl gS FS.kp lkS hcS bS scsaid rfl (.inl rfl) (said_gives (k := 0) D NN sd hG (hr.mono (by decide))) TB rfl hT hTu (hr.mono (by decide)) (lamS_by (sc := defScope slaw) (by decide +kernel)) rfl (fun _ _ _ _ _ => rfl) (fun A outer s H E f c_ hr2 => (pe_meth (pv 3) D.c.cl D.m_add_class Gm_add_class (hr2.mono (by decide)) bm_add_class .nil (passes_call (takes_of rfl rfl rfl rfl) fun _ _ _ _ h => h) (pa_cons (pv 6) (pa_cons (pe_make D.mkC GZ (hr2.mono (by decide)) rfl D.hC bzC vzC pass0 (pa_cons pe_str pa_nil)) pa_nil))))) (pe_lst (pa_cons pe_str (pa_cons (pe_callB (r := rReprW) (call_reprW hG hu sd) rfl D.gR boot_rep (pa_cons pe_str pa_nil)) pa_nil))) (nomark _))
          (pss_one (ps_ret pe_bl))
          pss_nil)
        (pss_one (ps_if (PW.pt (pw_or (pt_cmpR op_ne (pe_callB call_len rfl T.len boot_len (pa_cons (pe_prop (hb := bC) (hd := .nil) (hx := pass0) (hab := by rfl) (c := D.clL) (hp := pC) (F := GC) (hr := hr.mono (by decide)) (pe_itemI (pv 3) (pv 6) Gm___getitem__ D.m___getitem__.at_ D.git D.m___getitem__.fn bm___getitem__ (hr.mono (by decide)) passL)) pa_nil)) pe_int (nomark _)) (pw_or1 (pt_not (pt_cmpR (op_eqI GQ2 D.c___eq__.at_ D.c___eq__.fn bQ2 (hr.mono (by decide))) (pe_meth (pv 3) D.c.cl D.m_text Gm_text (hr.mono (by decide)) bm_text .nil passL (pa_cons (pv 6) (pa_cons pe_str pa_nil))) (pe_make D.mkC GZ (hr.mono (by decide)) rfl D.hC bzC vzC pass0 (pa_cons pe_str pa_nil)) (nomark _))))))
          (pss_one (ps_ret pe_bl))
          pss_nil)))))))))))))))))
      (pss_one (ps_ret (pe_and (pe_cmpR op_eq (ClX.pe_cval (pe_glob rfl D.hT (v := .ref (He.ga K "Tables")) rfl)) pe_int (nomark _)) (pe_one (pe_cmpR op_eq (ClX.pe_cval (pe_glob rfl D.hT (v := .ref (He.ga K "Tables")) rfl)) pe_int (nomark _))))))), ?_⟩
    have hmax : ∀ m : Int, m ≤ 8 → (if m > 1 then m else 1) ≤ 8 ∧ 1 ≤ (if m > 1 then m else 1) := fun m hm => by split <;> omega
    have hmin : (if (8 : Int) < ((ns.map V.int).length : Int) then (8 : Int) else ((ns.map V.int).length : Int)) ≤ 8 := by split <;> omega
    obtain ⟨hj1, hj2⟩ := hmax _ hmin
    refine ⟨_, rfl, _, _, rfl, Or.inl ⟨_, hS, rfl⟩, _, _, rfl, _, _, rfl, _, rfl, ?_, ?_, ?_⟩
    · exact Int.le_trans (by decide) hj2
    · exact Int.lt_of_le_of_lt hj1 (by decide)
    generalize (if (if (8 : Int) < ((ns.map V.int).length : Int) then (8 : Int) else ((ns.map V.int).length : Int)) > 1 then (if (8 : Int) < ((ns.map V.int).length : Int) then (8 : Int) else ((ns.map V.int).length : Int)) else 1) = J at hj1 hj2
    have ntb : ∀ {xs : List V} (ps : Array Value), HO.lst xs ≠ .tbl ps := fun _ z => nomatch z
    refine for_it walk_range (fun i σ H1 => ExtN H H1 ∧ Tabs Tb H1 ∧ ∃ v1 v2 v3 v4 v5 v6 v7 v8 v9, σ = [some (.ref a), v1, v2, v3, v4, v5, v6, v7, v8, v9]) ⟨ExtN.refl _, hTb, none, none, none, none, none, none, none, none, none, rfl⟩ (fun _ _ _ _ _ => trivial) ?_ ?_
    · rintro i xi σ _ H2 hi ⟨eN, tb, v1, v2, v3, v4, v5, v6, v7, v8, v9, rfl⟩ ⟨rfl, rfl⟩
      have hi8 : (i : Int) < 8 := by omega
      refine ⟨_, rfl, _, rfl, a, ns, 0 + (i : Int), rfl, sqL_exN eN hS, by omega, by omega, fun p N Sd hp hN hS1 hS2 => ?_⟩
      have eS : ExtN H2 H2 := ExtN.refl _
      have np := newN eS hp
      have en := Evl.Ex.new (o := .lst [.int N, .int Sd]) hp
      have hP := at_new hp (.lst [.int N, .int Sd])
      replace eS := eS.trans (ExtN.of en)
      replace tb := tb.ext en
      clear hp en
      generalize upd H2 p (.lst [.int N, .int Sd]) = H3 at eS tb hP
      -- Tables(), names
      intro t dt nt ndt hne
      have nt' := newN eS nt
      refine ⟨t, dt, rfl, upd_same, fun D1 D2 D3 H4 ht h1 h2 h3 n1 n2 n3 n12 n13 n23 k4 => ⟨rfl, ?_⟩⟩
      have eX : Evl.Ex H3 (upd (upd H3 dt (.own t)) t (.ins (He.ga K "Tables") dt [])) := fun b o e => by
        rw [upd_ne (by rintro rfl; rw [nt] at e; cases e), upd_ne (by rintro rfl; rw [ndt] at e; cases e)]; exact e
      have e4 := exMade nt ndt k4
      have m1 := newN eS (ex_noH eX n1)
      have m2 := newN eS (ex_noH eX n2)
      have m3 := newN eS (ex_noH eX n3)
      replace eS := eS.trans (ExtN.of e4)
      replace tb := tb.ext e4
      replace hP := e4 _ _ hP
      have hT4 : TbX (He.ga K "Tables") H4 t D1 D2 D3 [] := ⟨⟨dt, ht⟩, h1, h2, h3, (by intro _ h; cases h), ⟨n12, n13, n23, (by intro _ h; cases h), (by intro _ h; cases h), (by intro _ h; cases h), (by intro _ h; cases h)⟩, .nil⟩
      clear h1 h2 h3 n1 n2 n3 n12 n13 n23 k4 eX e4 nt ndt hne ht
      refine ⟨le_line (by simp), fun L0 hL0 => ?_⟩
      have hL0' := at_new hL0 (.lst LV)
      have e0 := Evl.Ex.new (o := .lst LV) hL0
      replace eS := eS.trans (ExtN.of e0)
      replace tb := tb.ext e0
      have nLp : L0 ≠ p := by rintro rfl; rw [hL0] at hP; cases hP
      replace hP := e0 _ _ hP
      replace hT4 := hT4.ext e0
      clear hL0 e0
      refine ⟨_, rfl, p, N, Sd, 7, rfl, hP, hN, hS1, hS2, by decide, by decide, fun d N2 S2 hd1 hd2 hN2 hS3 hS4 => ?_⟩
      replace eS := ExtN.mut (o := .lst [.int N2, .int S2]) eS np
      replace tb := Tabs.mut (a := p) (o := .lst [.int N2, .int S2]) tb (fun ps z => by rw [hP] at z; cases z) (fun q z => by rw [hP] at z; cases z)
      replace hT4 := hT4.keepL (upd_keepL hP (.lst [.int N2, .int S2]))
      replace hL0' := (upd_ne (o := .lst [.int N2, .int S2]) nLp).trans hL0'
      replace hP := at_upd hP (.lst [.int N2, .int S2])
      obtain ⟨n, hn2, hn8, hcut⟩ := cut_LV hd1 hd2
      refine ⟨_, _, rfl, rfl, _, rfl, L0, LV, rfl, SqL.of hL0', fun Ln hLn => ?_⟩
      rw [hcut]
      have hNm := at_new hLn (.lst ((letters8.take n).map V.str))
      have e0 := Evl.Ex.new (o := .lst ((letters8.take n).map V.str)) hLn
      replace eS := eS.trans (ExtN.of e0)
      replace tb := tb.ext e0
      have nLn : Ln ≠ p := fun e => by
        subst e
        have w := hLn.symm.trans hP
        cases w
      replace hP := e0 _ _ hP
      replace hT4 := hT4.ext e0
      clear hLn e0 hL0' nLp hcut
      refine ⟨le_line (by simp), fun q hq => ?_⟩
      have e0 := Evl.Ex.new (o := .tup [.ref t, .ref Ln]) hq
      replace eS := eS.trans (ExtN.of e0)
      replace tb := tb.ext e0
      replace hP := e0 _ _ hP
      replace hT4 := hT4.ext e0
      replace hNm := e0 _ _ hNm
      refine ⟨q, _, rfl, SqT.of upd_same, rfl, _, _, rfl, _, _, rfl, rfl, ?_⟩
      generalize upd _ q (.tup [.ref t, .ref Ln]) = H5 at eS tb hP hT4 hNm
      clear hq e0
      have hlen : ((letters8.take n).map V.str).length = n := by
        rw [List.length_map, List.length_take]
        show min n 8 = n
        omega
      refine ⟨_, rfl, Ln, rfl, ⟨_, SqL.of hNm⟩, ?_⟩
      refine for_it (walk_list (xs := (letters8.take n).map V.str)) (fun i2 σ' H' => ExtN H2 H' ∧ Tabs Tb H' ∧ H' p = some (.lst [.int N2, .int S2]) ∧ H' Ln = some (.lst ((letters8.take n).map V.str)) ∧
          ∃ S v5 v6 v7 v8 v9, TbX (He.ga K "Tables") H' t D1 D2 D3 S ∧ S.map (·.name) = (letters8.take n).take i2 ∧ (∀ e ∈ S, e.ts = [] ∧ e.as = []) ∧ FrS H2 S ∧ σ' = [some (.ref a), some (.int (0 + (i : Int))), some (.ref p), some (.ref t), some (.ref Ln), v5, v6, v7, v8, v9])
        ⟨eS, tb, hP, hNm, [], _, _, _, _, _, hT4, rfl, (by intro _ h; cases h), (by intro _ h; cases h), rfl⟩ (fun j σ H' _ h => SqL.of h.2.2.2.1) ?_ ?_
      · rintro i2 y σ _ H6 hi2 ⟨eS, tb, hP, hNm, S, v5, v6, v7, v8, v9, hT, hnm, hE, hF, rfl⟩ ⟨rfl, hy⟩
        rw [hlen] at hi2
        obtain ⟨z, hz⟩ : ∃ z, (letters8.take n)[i2]? = some z := by
          have : i2 < (letters8.take n).length := by rw [← List.length_map (f := V.str), hlen]; exact hi2
          exact ⟨_, List.getElem?_eq_getElem this⟩
        rw [List.getElem?_map, hz] at hy
        cases hy
        obtain ⟨nmz, okz⟩ := let_ok z (List.mem_of_mem_take (List.mem_of_getElem? hz))
        obtain ⟨dt, ht⟩ := hT.ob
        have hSl : S.length = i2 := by
          have := congrArg List.length hnm
          rw [List.length_map, List.length_take, ← List.length_map (f := V.str), hlen] at this
          omega
        refine ⟨_, rfl, t, dt, _, rfl, ht, rfl, _, rfl, t, .str z, .non, .str z, .none, D1, D2, D3, S, rfl, hT, .str z, okz, .non, rfl, by omega, .inr ⟨z, rfl, nmz, .inr ⟨notin_pref hnm hz, .inr ⟨.inl rfl, .inr ⟨by omega, rfl, fun Ta Aa H7 nT nA hT7 k7 => ?_⟩⟩⟩⟩⟩
        have kA : ∀ b o, (∀ a ∈ [D1, D2, D3], b ≠ a) → H6 b = some o → H7 b = some o := fun b o h hb => k7 b o (h _ (by simp)) (h _ (by simp)) (h _ (by simp)) hb
        have hA : ∀ a ∈ [D1, D2, D3], ∃ kvs, H6 a = some (.dK kvs) := fun a ha => by
          simp only [List.mem_cons, List.not_mem_nil, or_false] at ha
          rcases ha with rfl | rfl | rfl
          · exact ⟨_, hT.h1⟩
          · exact ⟨_, hT.h2⟩
          · exact ⟨_, hT.h3⟩
        have fr : ∀ a ∈ [D1, D2, D3], NewIn H2 a := fun a ha => by
          simp only [List.mem_cons, List.not_mem_nil, or_false] at ha
          rcases ha with rfl | rfl | rfl
          · exact m1
          · exact m2
          · exact m3
        refine ⟨mutN _ eS fr kA, tabsN _ tb hA kA, keepN _ hA kA (fun _ z => nomatch z) hP, keepN _ hA kA (fun _ z => nomatch z) hNm, _, _, _, _, _, _, hT7, ?_, ?_, ?_, rfl⟩
        · rw [List.map_append, hnm, List.take_succ, hz]
          rfl
        · intro e he
          rcases List.mem_append.mp he with he | he
          · exact hE e he
          · rw [List.mem_singleton.mp he]; exact ⟨rfl, rfl⟩
        · intro e he
          rcases List.mem_append.mp he with he | he
          · exact hF e he
          · rw [List.mem_singleton.mp he]; exact ⟨newN eS nT, newN eS nA⟩
      rintro σ H6 ⟨eS, tb, hP, hNm, S, v5, v6, v7, v8, v9, hT, hnm, hE, hF, rfl⟩
      rw [hlen, List.take_take, Nat.min_self] at hnm
      have hSl : S.length = n := by
        have := congrArg List.length hnm
        rw [List.length_map, ← List.length_map (f := V.str), hlen] at this
        exact this
      have hS2 : NmS S := ⟨by omega, by omega, by rw [hnm, hSl]⟩
      clear hT4
      -- last
      refine ⟨_, rfl, _, rfl, _, rfl, _, _, rfl, .inl ⟨_, SqL.of hNm, rfl⟩, _, _, rfl, rfl, p, N2, S2, _, rfl, hP, hN2, hS3, hS4, by rw [hlen]; omega, by rw [hlen]; omega, fun d3 N3 S3 hd3 hd4 hN3 hS5 hS6 => ?_⟩
      rw [hlen] at hd4
      replace eS := ExtN.mut (o := .lst [.int N3, .int S3]) eS np
      replace tb := Tabs.mut (a := p) (o := .lst [.int N3, .int S3]) tb (fun ps z => by rw [hP] at z; cases z) (fun q z => by rw [hP] at z; cases z)
      replace hT := hT.keepL (upd_keepL hP (.lst [.int N3, .int S3]))
      replace hNm := (upd_ne (o := .lst [.int N3, .int S3]) nLn).trans hNm
      clear hP
      generalize upd H6 p (.lst [.int N3, .int S3]) = H7 at eS tb hT hNm
      obtain ⟨k, rfl⟩ := Int.eq_ofNat_of_zero_le hd3
      obtain ⟨la, hlaz⟩ : ∃ z, (letters8.take n)[1 + k]? = some z := by
        have : 1 + k < (letters8.take n).length := by rw [← List.length_map (f := V.str), hlen]; omega
        exact ⟨_, List.getElem?_eq_getElem this⟩
      have hla : Idx S la (1 + k) := by show (S.map (·.name))[1 + k]? = some la; rw [hnm]; exact hlaz
      refine ⟨_, _, rfl, rfl, Ln, _, _, .str la, rfl, rfl, SqL.of hNm, ?_, ?_⟩
      · rw [show (1 : Int) + (k : Nat) = ((1 + k : Nat) : Int) by omega]
        exact atI_nat (by rw [List.getElem?_map, hlaz]; rfl)
      -- copy
      have hl1000 : S.length < 1000 := by omega
      obtain ⟨dt, ht⟩ := hT.ob
      refine ⟨_, rfl, t, dt, _, rfl, ht, rfl, t, D1, D2, D3, S, rfl, hT, hl1000, fun t' E1 E2 E3 S' H8 e8 hf hT' hsh => ?_⟩
      replace eS := eS.trans (ExtN.of e8)
      replace tb := tb.ext e8
      replace hT := hT.ext e8
      replace hNm := e8 _ _ hNm
      clear e8 hf ht
      -- loaders_right, parts_right, ==
      refine ⟨_, rfl, _, rfl, _, _, rfl, .inl ⟨_, SqL.of hNm, rfl⟩, t, D1, D2, D3, S, (by rw [hlen, hSl]; rfl), hT, hS2, tb, fun H9 g9 t9 => ?_⟩
      replace eS := eS.trans g9
      replace hT := hT.extN g9
      replace hT' := hT'.extN g9
      replace hNm := g9 _ _ hNm ntb
      clear tb g9
      refine ⟨_, rfl, ifF rfl ?_⟩
      refine ⟨_, rfl, _, rfl, t, D1, D2, D3, S, la, 1 + k, rfl, hT, hS2, hE, hla, t9, fun H10 g10 tb => ?_⟩
      replace eS := eS.trans g10
      replace hT := hT.extN g10
      replace hT' := hT'.extN g10
      clear t9 g10 hNm
      refine ⟨_, rfl, ifF rfl ?_⟩
      obtain ⟨okla, _, _, _⟩ := hS2.ok hla
      have oka : okD (.str "a") = true := by decide +kernel
      have hlay : ∀ {S : List Ent}, NmS S → ((S.map fun e => e.name).all fun z => (PyData.str z).canLay0) = true := fun {S} h => by
        rw [List.all_eq_true]
        intro z hz
        rw [h.nm] at hz
        exact (show ∀ z ∈ letters8, (PyData.str z).canLay0 = true from by decide +kernel) z (List.mem_of_mem_take hz)
      obtain ⟨dt, ht⟩ := hT.ob
      obtain ⟨dt', ht'⟩ := hT'.ob
      refine ⟨_, rfl, _, rfl, t, dt, _, t', rfl, rfl, ht, .inl ⟨_, _, ht'⟩, t, t', D1, D2, D3, E1, E2, E3, S, S', rfl, hT, hT', hsh, hl1000, (fun e he => ?_), hlay hS2, fun H11 e11 => ⟨true, rfl, _, rfl, ifF rfl ?_⟩⟩
      · rw [(hE e he).1, (hE e he).2]
        exact ⟨Nat.zero_le _, Nat.zero_le _, fun _ h => nomatch h⟩
      replace eS := eS.trans (ExtN.of e11)
      replace hT := hT.ext e11
      replace tb := tb.ext e11
      clear hT' hsh ht ht' e11
      -- add_class(last, ClassText("x"))
      obtain ⟨ela, hela⟩ := ent_idx hla
      obtain ⟨dt, ht⟩ := hT.ob
      have hm := ent_mem hela
      refine ⟨_, rfl, t, dt, _, rfl, ht, rfl, _, rfl, fun c dc nc ndc hne => ⟨c, dc, "x", kdAt "marks" K, kdAt "fields" K, kdAt "methods" K, rfl, upd_same, by decide +kernel, by decide +kernel, D.e1, D.e2, D.e3, fun Hc kc hc => ⟨rfl, t, .str la, .ref c, .str la, D1, D2, D3, S, rfl, hT.ext (exMade nc ndc kc), .str _, okla, .inr ⟨la, ela, rfl, hela, .inr ⟨c, dc, "x", kdAt "marks" K, kdAt "fields" K, kdAt "methods" K, rfl, hc, .inr ⟨?_, .inr ⟨?_, fun H13 hT13 k13 => ?_⟩⟩⟩⟩⟩⟩⟩
      · rw [hasT, hasA, (hE ela hm).1, (hE ela hm).2]; rfl
      · rw [(hE ela hm).1]; decide
      have eZ := exMade nc ndc kc
      have kA : ∀ b o, (∀ a ∈ [ela.T], b ≠ a) → Hc b = some o → H13 b = some o := fun b o h hb => k13 b o (h _ (by simp)) hb
      have hA : ∀ a ∈ [ela.T], ∃ kvs, Hc a = some (.dK kvs) := fun a ha => by rw [List.mem_singleton.mp ha]; exact ⟨_, ((hT.ext eZ).h4 ela hm).1⟩
      replace eS := mutN _ (eS.trans (ExtN.of eZ)) (fun a ha => by rw [List.mem_singleton.mp ha]; exact (hF ela hm).1) kA
      replace tb := tabsN _ (tb.ext eZ) hA kA
      replace hc := keepN _ hA kA (fun _ z => by cases z) hc
      clear kA hA k13 eZ kc nc ndc hne ht hT
      have hela1 : ent (updE S la (addT "x" (.ref c))) la = some (addT "x" (.ref c) ela) := by rw [ent_updE (g := addT "x" (.ref c)) (fun _ => rfl), hela]; simp
      have hS3 := nms_upd (z := la) (g := addT "x" (.ref c)) (fun _ => rfl) hS2
      have hla1 := idx_upd (z := la) (g := addT "x" (.ref c)) (fun _ => rfl) hla
      have hF1 : FrS H2 (updE S la (addT "x" (.ref c))) := hF.upd (fun _ => rfl) (fun _ => rfl)
      have hE1 : ∀ e ∈ updE S la (addT "x" (.ref c)), (e.ts = [] ∨ e.ts = [(("x" : Str), V.ref c)]) ∧ e.as = [] := fun e he => by
        obtain ⟨e0, h0, rfl⟩ := mem_updE he
        split
        · refine ⟨.inr ?_, (hE e0 h0).2⟩
          show e0.ts ++ _ = _
          rw [(hE e0 h0).1]; rfl
        · exact ⟨.inl (hE e0 h0).1, (hE e0 h0).2⟩
      generalize updE S la (addT "x" (.ref c)) = S1 at hT13 hela1 hS3 hla1 hF1 hE1
      -- ask(last, "z", "a")
      obtain ⟨dt, ht⟩ := hT13.ob
      have hm1 := ent_mem hela1
      refine ⟨_, rfl, t, dt, _, rfl, ht, rfl, _, rfl, t, .str la, .str "z", .str "a", .str la, .str "z", .str "a", D1, D2, D3, S1, rfl, hT13, .str _, okla, .inr ⟨inT_ent hela1, .str _, by decide +kernel, .inr ⟨by decide +kernel, .str _, oka, .inr ⟨la, "z", "a", 1 + k, 0, _, rfl, rfl, rfl, hla1, hS3.a, hela1, .inr ⟨by omega, .inr ⟨?_, ?_, fun H14 hT14 k14 => ?_⟩⟩⟩⟩⟩⟩
      · rw [hasT_addT, hasA_addT, hasT, hasA, (hE ela hm).1, (hE ela hm).2]; decide +kernel
      · rw [(hE1 _ hm1).2]; decide
      have kA : ∀ b o, (∀ a ∈ [ela.A], b ≠ a) → H13 b = some o → H14 b = some o := fun b o h hb => k14 b o (h ela.A (by simp)) hb
      have hA : ∀ a ∈ [ela.A], ∃ kvs, H13 a = some (.dK kvs) := fun a ha => by rw [List.mem_singleton.mp ha]; exact ⟨_, show H13 ela.A = _ from (hT13.h4 _ hm1).2⟩
      replace eS := mutN _ eS (fun a ha => by rw [List.mem_singleton.mp ha]; exact (hF ela hm).2) kA
      replace tb := tabsN _ tb hA kA
      replace hc := keepN _ hA kA (fun _ z => by cases z) hc
      clear kA hA k14 ht hT13
      have hela2 : ent (updE S1 la (addA "z" "a")) la = some (addA "z" "a" (addT "x" (.ref c) ela)) := by rw [ent_updE (g := addA "z" "a") (fun _ => rfl), hela1]; simp
      have hS4 := nms_upd (z := la) (g := addA "z" "a") (fun _ => rfl) hS3
      have hla2 := idx_upd (z := la) (g := addA "z" "a") (fun _ => rfl) hla1
      have hF2 : FrS H2 (updE S1 la (addA "z" "a")) := hF1.upd (fun _ => rfl) (fun _ => rfl)
      have hE2 : ∀ e ∈ updE S1 la (addA "z" "a"), e.ts.length ≤ 1 ∧ e.as.length ≤ 1 ∧ ∀ q ∈ e.ts, ∃ c, q.2 = .ref c := fun e he => by
        obtain ⟨e0, h0, rfl⟩ := mem_updE he
        have h1 : e0.ts.length ≤ 1 ∧ ∀ q ∈ e0.ts, ∃ c, q.2 = V.ref c := by
          rcases (hE1 e0 h0).1 with q | q <;> rw [q]
          · exact ⟨Nat.zero_le _, fun _ h => nomatch h⟩
          · exact ⟨Nat.le_refl _, fun q hq => by rw [List.mem_singleton.mp hq]; exact ⟨c, rfl⟩⟩
        split
        · refine ⟨h1.1, ?_, h1.2⟩
          show (e0.as ++ _).length ≤ 1
          rw [(hE1 e0 h0).2]; decide
        · refine ⟨h1.1, ?_, h1.2⟩
          rw [(hE1 e0 h0).2]; decide
      have hts2 : (addA "z" "a" (addT "x" (.ref c) ela)).ts = [(("x" : Str), V.ref c)] := by show ela.ts ++ _ = _; rw [(hE ela hm).1]; rfl
      have has2 : (addA "z" "a" (addT "x" (.ref c) ela)).as = [(("z" : Str), ("a" : Str))] := by show ela.as ++ _ = _; rw [(hE ela hm).2]; rfl
      generalize addA "z" "a" (addT "x" (.ref c) ela) = e2 at hela2 hts2 has2
      generalize updE S1 la (addA "z" "a") = S2 at hT14 hela2 hS4 hla2 hF2 hE2
      clear hE1 hF1 hla1 hS3 hela1 hm1 hE hF hla hela hm hS2 hnm hSl hlaz
      -- copy
      have hl2 : S2.length < 1000 := by have := hS4.eight; omega
      obtain ⟨dt, ht⟩ := hT14.ob
      refine ⟨_, rfl, t, dt, _, rfl, ht, rfl, t, D1, D2, D3, S2, rfl, hT14, hl2, fun t2 E1 E2 E3 S' H8 e8 hf hT' hsh => ?_⟩
      replace eS := eS.trans (ExtN.of e8)
      replace tb := tb.ext e8
      replace hT14 := hT14.ext e8
      replace hc := e8 _ _ hc
      clear e8 hf ht
      refine ⟨_, rfl, _, rfl, t, D1, D2, D3, S2, la, 1 + k, e2, rfl, hT14, hS4, hla2, by omega, hela2, ?_, ?_, tb, fun H15 g15 t15 => ?_⟩
      · rw [hasT, hts2]; rfl
      · rw [hasA, has2]; rfl
      replace eS := eS.trans g15
      replace hT14 := hT14.extN g15
      replace hT' := hT'.extN g15
      replace hc := g15 _ _ hc (fun _ z => nomatch z)
      clear tb g15
      refine ⟨_, rfl, ifF rfl ?_⟩
      obtain ⟨dt, ht⟩ := hT14.ob
      obtain ⟨dt', ht'⟩ := hT'.ob
      refine ⟨_, rfl, _, rfl, t, dt, _, t2, rfl, rfl, ht, .inl ⟨_, _, ht'⟩, t, t2, D1, D2, D3, E1, E2, E3, S2, S', rfl, hT14, hT', hsh, hl2, hE2, hlay hS4, fun H16 e16 => ⟨true, rfl, _, rfl, ifF rfl ?_⟩⟩
      replace eS := eS.trans (ExtN.of e16)
      replace hT := hT14.ext e16
      replace tb := t15.ext e16
      replace hc := e16 _ _ hc
      clear hT' hsh ht ht' e16 hT14 t15 hE2
      -- 39 more texts
      refine ⟨_, rfl, by decide, by decide, ?_⟩
      refine for_it walk_range (fun j σ' H' => ExtN H2 H' ∧ Tabs Tb H' ∧ H' c = some (.ins (He.ga K "ClassText") dc (zfields "x" (kdAt "marks" K) (kdAt "fields" K) (kdAt "methods" K))) ∧
          ∃ S e rest v9, TbX (He.ga K "Tables") H' t D1 D2 D3 S ∧ NmS S ∧ FrS H2 S ∧ ent S la = some e ∧ e.ts = (("x" : Str), V.ref c) :: rest ∧ rest.map (·.1) = (List.range j).map nmQ ∧ e.as = [(("z" : Str), ("a" : Str))] ∧
            ∃ w1 w2 w4 w5 w7, σ' = [some (.ref a), w1, w2, some (.ref t), w4, w5, some (.str la), w7, some (.str signsS), v9])
        ⟨eS, tb, hc, S2, e2, [], _, hT, hS4, hF2, hela2, hts2, rfl, has2, _, _, _, _, _, rfl⟩ (fun _ _ _ _ _ => trivial) ?_ ?_
      · rintro j xj σ _ H17 hj ⟨eS, tb, hc, S, e, rest, v9, hT, hS, hF, he, hts, hrest, has, w1, w2, w4, w5, w7, rfl⟩ ⟨rfl, rfl⟩
        obtain ⟨q1, q2, q3, q4, q5⟩ := nmQ_ok j hj
        obtain ⟨s1, s2⟩ := sg_at j hj
        obtain ⟨dt, ht⟩ := hT.ob
        have hm := ent_mem he
        refine ⟨_, rfl, t, dt, _, rfl, ht, rfl, _, rfl, ?_⟩
        refine ⟨_, rfl, _, rfl, _, _, rfl, rfl, ?_, signsS, _, _, rfl, rfl, ?_, s1, _, _, rfl, rfl, ?_, ?_⟩
        · exact ⟨by decide, by decide⟩
        · exact le_line (by decide +kernel)
        · show 1 + 1 ≤ sizeLine
          rw [sizeLine_eq]; decide
        refine ⟨_, rfl, _, rfl, _, _, rfl, rfl, (show (0 : Int) < 26 by decide), signsS, _, _, rfl, rfl, le_line (by decide +kernel), s2, _, _, rfl, rfl, ?_, ?_⟩
        · show 2 + 1 ≤ sizeLine
          rw [sizeLine_eq]; decide
        have hlt : e.ts.length = j + 1 := by
          rw [hts, List.length_cons, ← List.length_map (f := (·.1)), hrest, List.length_map, List.length_range]
        have hfree : (hasT e (nmQ j) || hasA e (nmQ j)) = false := by
          rw [hasT_mem, hasA_mem, hts, has, List.map_cons, hrest, Bool.or_eq_false_iff]
          refine ⟨decide_eq_false fun w => ?_, decide_eq_false fun w => ?_⟩
          · rcases List.mem_cons.mp w with w | w
            · exact q3 w
            · exact q5 w
          · exact q4 (List.mem_singleton.mp w)
        refine fun c2 dc2 nc ndc hne => ⟨c2, dc2, nmQ j, kdAt "marks" K, kdAt "fields" K, kdAt "methods" K, rfl, upd_same, q1, q2, D.e1, D.e2, D.e3, fun Hc kc hc2 => ⟨rfl, t, .str la, .ref c2, .str la, D1, D2, D3, S, rfl, hT.ext (exMade nc ndc kc), .str _, okla, .inr ⟨la, e, rfl, he, .inr ⟨c2, dc2, nmQ j, kdAt "marks" K, kdAt "fields" K, kdAt "methods" K, rfl, hc2, .inr ⟨hfree, .inr ⟨?_, fun H18 hT18 k18 => ?_⟩⟩⟩⟩⟩⟩
        · have h39 : j < 39 := hj
          omega
        have eZ := exMade nc ndc kc
        have kA : ∀ b o, (∀ a ∈ [e.T], b ≠ a) → Hc b = some o → H18 b = some o := fun b o h hb => k18 b o (h _ (by simp)) hb
        have hA : ∀ a ∈ [e.T], ∃ kvs, Hc a = some (.dK kvs) := fun a ha => by rw [List.mem_singleton.mp ha]; exact ⟨_, ((hT.ext eZ).h4 e hm).1⟩
        refine ⟨mutN _ (eS.trans (ExtN.of eZ)) (fun a ha => by rw [List.mem_singleton.mp ha]; exact (hF e hm).1) kA, tabsN _ (tb.ext eZ) hA kA, keepN _ hA kA (fun _ z => by cases z) (eZ _ _ hc), _, addT (nmQ j) (.ref c2) e, rest ++ [(nmQ j, .ref c2)], _, hT18, nms_upd (fun _ => rfl) hS, hF.upd (fun _ => rfl) (fun _ => rfl), ?_, ?_, ?_, has, _, _, _, _, _, rfl⟩
        · rw [ent_updE (g := addT (nmQ j) (.ref c2)) (fun _ => rfl), he]; simp
        · show e.ts ++ _ = _
          rw [hts]; rfl
        · rw [List.map_append, hrest, List.range_succ, List.map_append]; rfl
      rintro σ H17 ⟨eS, tb, hc, S, e, rest, v9, hT, hS, hF, he, hts, hrest, has, w1, w2, w4, w5, w7, rfl⟩
      have hrest : rest.map (·.1) = (List.range 39).map nmQ := hrest
      have hlt : e.ts.length = 40 := by
        rw [hts, List.length_cons, ← List.length_map (f := (·.1)), hrest, List.length_map, List.length_range]
      have hmore : (hasT e "more" || hasA e "more") = false := by
        rw [hasT_mem, hasA_mem, hts, has, List.map_cons, hrest, Bool.or_eq_false_iff]
        exact ⟨decide_eq_false moreOk, by decide +kernel⟩
      have hx : (hasT e "x" || hasA e "x") = true := by rw [hasT_mem, hts]; simp
      have SD40 : ShowD (.int 40) := ShowD.of (by decide +kernel)
      have SDx : ShowD (.str "x") := ShowD.of (by decide +kernel)
      -- one more
      refine ⟨tb, fun Ga ga ta => ?_⟩
      have hT4 := hT.extN ga
      obtain ⟨dt, ht⟩ := hT4.ob
      refine ⟨_, rfl, t, dt, _, rfl, ht, rfl, _, rfl, fun c2 dc2 nc ndc hne => ⟨c2, dc2, "more", kdAt "marks" K, kdAt "fields" K, kdAt "methods" K, rfl, upd_same, by decide +kernel, by decide +kernel, D.e1, D.e2, D.e3, fun Hc kc hc2 => ⟨rfl, t, .str la, .ref c2, .str la, D1, D2, D3, S, rfl, hT4.ext (exMade nc ndc kc), .str _, okla, .inr ⟨la, e, rfl, he, .inr ⟨c2, dc2, "more", kdAt "marks" K, kdAt "fields" K, kdAt "methods" K, rfl, hc2, .inr ⟨hmore, .inl ⟨by omega, rs_said (wd := "limit") (by simp [exTab]) (.int 40) SD40 fun R H6 e6 hR => ?_⟩⟩⟩⟩⟩⟩⟩
      refine ⟨le_line (by simp), fun R2 g => ?_⟩
      rw [show (PyData.int 40).shown = ("40" : Str) from by decide +kernel] at hR
      have en := Evl.Ex.new (o := .lst [.str "limit", .str "40"]) g
      have e67 := ((exMade nc ndc kc).trans e6).trans en
      refine ne_same (dq2 (en _ _ hR)) (dq2 upd_same) (shp2 _ _ (by decide +kernel) (by decide +kernel)) ⟨_, rfl, ifF rfl ?_⟩
      replace eS := (eS.trans ga).trans (ExtN.of e67)
      replace tb := ta.ext e67
      replace hT := hT4.ext e67
      replace hc := e67 _ _ (ga _ _ hc (fun _ z => by cases z))
      clear ta ga hT4 ht kc nc ndc hne hc2 e6 hR en e67 g
      -- a name that is there
      refine ⟨tb, fun Ga ga ta => ?_⟩
      have hT4 := hT.extN ga
      obtain ⟨dt, ht⟩ := hT4.ob
      refine ⟨_, rfl, t, dt, _, rfl, ht, rfl, _, rfl, fun c2 dc2 nc ndc hne => ⟨c2, dc2, "x", kdAt "marks" K, kdAt "fields" K, kdAt "methods" K, rfl, upd_same, by decide +kernel, by decide +kernel, D.e1, D.e2, D.e3, fun Hc kc hc2 => ⟨rfl, t, .str la, .ref c2, .str la, D1, D2, D3, S, rfl, hT4.ext (exMade nc ndc kc), .str _, okla, .inr ⟨la, e, rfl, he, .inr ⟨c2, dc2, "x", kdAt "marks" K, kdAt "fields" K, kdAt "methods" K, rfl, hc2, .inl ⟨hx, rs_said (wd := "taken") (by simp [exTab]) (.str _) SDx fun R H6 e6 hR => ?_⟩⟩⟩⟩⟩⟩
      refine ⟨.str "x", .str "x", rfl, .q (.str _), SDx.s, Nat.le_trans SDx.z (by rw [sizeLine_eq]; decide), SDx.p, le_line (by simp), fun R2 g => ?_⟩
      have en := Evl.Ex.new (o := .lst [.str "taken", .str (PyData.str "x").shown]) g
      have e67 := ((exMade nc ndc kc).trans e6).trans en
      refine ne_same (dq2 (en _ _ hR)) (dq2 upd_same) (shp2 _ _ (by decide +kernel) (by decide +kernel)) ⟨_, rfl, ifF rfl ?_⟩
      replace eS := (eS.trans ga).trans (ExtN.of e67)
      replace tb := ta.ext e67
      replace hT := hT4.ext e67
      replace hc := e67 _ _ (ga _ _ hc (fun _ z => by cases z))
      clear ta ga hT4 ht kc nc ndc hne hc2 e6 hR en e67 g
      -- forty classes, the first text
      obtain ⟨dt, ht⟩ := hT.ob
      have hkl : ((kvT e).map fun kv => L2.kV kv.1).length = 40 := by rw [List.length_map, kvT, List.length_map]; exact hlt
      refine ⟨_, rfl, _, rfl, t, dt, _, rfl, ht, t, .str la, .str la, S, rfl, hT.at_, .str _, okla, .inl ⟨inT_ent he, fun l dl Gb gb hl => ⟨l, dl, _, rfl, hl, l, t, la, S, e, rfl, ⟨dl, hl⟩, hT.at_.ext gb, he, fun q hq => ⟨_, _, rfl, .inr ⟨_, SqT.of upd_same, rfl⟩, rfl, _, rfl, ifF ?_ ?_⟩⟩⟩⟩
      · rw [hkl]; rfl
      have en := gb.trans (Evl.Ex.new (o := .tup ((kvT e).map fun kv => L2.kV kv.1)) hq)
      replace eS := eS.trans (ExtN.of en)
      replace tb := tb.ext en
      replace hT := hT.ext en
      replace hc := en _ _ hc
      clear en gb hl hq ht
      obtain ⟨dt, ht⟩ := hT.ob
      have htx : tsOf S la (.str "x") = some (.ref c) := by
        show (ent S la).bind _ = _
        rw [he]
        show valV (kvT e) (.inr "x") = _
        rw [kvT, hts, List.map_cons]
        exact valV_pos rfl
      refine ⟨_, rfl, t, dt, _, rfl, ht, rfl, _, rfl, t, .str la, .str "x", .str la, .str "x", S, rfl, hT.at_, .str _, okla, .str _, by decide +kernel, .inr ⟨la, rfl, inT_ent he, .inr ⟨.ref c, htx, ?_⟩⟩⟩
      refine fun c2 dc2 nc ndc hne => ⟨c2, dc2, "x", kdAt "marks" K, kdAt "fields" K, kdAt "methods" K, rfl, upd_same, by decide +kernel, by decide +kernel, D.e1, D.e2, D.e3, fun Hc kc hc2 => ⟨rfl, ?_⟩⟩
      have eZ := exMade nc ndc kc
      refine ⟨c, dc, _, c2, rfl, rfl, eZ _ _ hc, .inl ⟨_, _, hc2⟩, c, c2, dc, dc2, "x", kdAt "marks" K, kdAt "fields" K, kdAt "methods" K, rfl, eZ _ _ hc, hc2, fun H19 e19 => ⟨true, rfl, _, rfl, ifF rfl ?_⟩⟩
      have eZ2 := eZ.trans e19
      exact ⟨eN.trans (eS.trans (ExtN.of eZ2)), tb.ext eZ2, _, _, _, _, _, _, _, _, _, rfl⟩
    · rintro σ H1 ⟨eN, tb, v1, v2, v3, v4, v5, v6, v7, v8, v9, rfl⟩
      obtain ⟨u8, c8⟩ := D.c8
      obtain ⟨u40, c40⟩ := D.c40
      refine ⟨_, _, _, _, rfl, D.cR, c8, rfl, _, rfl, ifT (decide_eq_true rfl) ?_⟩
      refine ⟨_, _, _, _, rfl, D.cR, c40, rfl, ?_⟩
      rw [decide_eq_true (show (V.int 40) = V.int 40 from rfl)]
      exact hQ _
end
end K06

set_option Elab.async false
set_option linter.all false
set_option maxRecDepth 100000
set_option maxHeartbeats 0
/-! the end of a law with several tables of code objects and no repr around -/
namespace EX2
open PySem PySem.Spec PyProof.Rows L2 LamX
section
variable {P : Program} {w : World} {K : PySem.W.Frag} {mg mb : Str → Option Value} {k : Nat} {fa a : Addr} {cs : List (Addr × Addr)} {fd : FuncData} {x : Str} {sp : Sp} {s₁ : Shared} {vs : List Value} {ns : List Int}
/-- the law called; the table at cT (of the code object cC) is empty, and may grow -/
theorem law_coreGTs (KX : K.In s₁.heap) (hns : s₁.heap.Ns mainGlobals mg) (hb : s₁.heap.Ns builtinsNs mb) (hbb : ∀ x : Str, x ≠ "__name__" → mb x = bootBuiltins x) (hlim : s₁.heap.NoLimit) (hg : s₁.gens = #[])
    (hT : ∀ p ∈ cs, s₁.heap.get? p.2 = some { cls := .none, data := .fields #[] }) (nT : ∀ p ∈ cs, K.lookup p.2 = none) (C : ∀ p ∈ cs, PySem.W.CodeHd s₁.heap p.1 p.2)
    (hbm : ∃ (bm : Addr) (ob : Obj), mg "__builtins__" = some (.ref bm) ∧ bm ≠ builtinsNs ∧ s₁.heap.get? bm = some ob ∧ ob.cls = .type "module" ∧ ob.dict = some builtinsNs ∧ ob.data = .plain)
    (ha : s₁.heap.get? a = some { cls := .type "list", data := .seq vs.toArray }) (hr : Room k callerA)
    (F : ∀ base : Heap, K.In base → base.Ns mainGlobals mg → (∀ p ∈ cs, TabB base mg p.1 p.2) → FnOkG P w K mg base k fa fd [x] sp) (hbind : ∀ (s : Shared) (u : Value), BindsTo s fd ⟨[u], []⟩ [(x, u)])
    (hsp : ∀ H : Hp, (∀ p ∈ cs, H p.2 = some (.tbl #[])) → SqL K H a (ns.map V.int) → sp [.ref a] H (fun v _ => v = .bl true) fun _ _ _ => False)
    (H : Hp) (hH : ∀ p ∈ cs, H p.2 = some (.tbl #[])) (hO : ∀ b, b ∉ cs.map (·.2) → H b = none ∨ ∃ o xs, H b = some (.frz o (.lst xs))) (hS : SqL K H a (ns.map V.int)) (hok : HOk P w H s₁.heap) (hA : ∀ b, H b ≠ none → b = a ∨ b ∈ cs.map (·.2)) (hK : H a ≠ none → K.lookup a = none) :
    codeAny (model P w) callerA (.call (.ref fa) ⟨[.ref a], []⟩) (fun r s' => r = .ok (.ret (.bool true)) ∧ OldK s₁.heap s'.heap ∧ s'.os = s₁.os ∧ AllBare s'.gens) s₁ := by
  have isT : ∀ b : Addr, b ∈ cs.map (·.2) → s₁.heap.get? b = some { cls := .none, data := .fields #[] } := fun b hb => by
    obtain ⟨p, hp, e⟩ := List.mem_map.mp hb
    rw [← e]
    exact hT p hp
  have free : ∀ {b : Addr} {o : Obj}, s₁.heap.get? b = some o → (∀ vs n, o.data ≠ .seq vs n) → o.data ≠ .fields #[] → H b = none := fun {b o} e d d2 => Classical.byContradiction fun z => by
    rcases hA b z with q | q
    · rw [q, ha] at e; cases e; exact d _ _ rfl
    · rw [isT b q] at e; cases e; exact d2 rfl
  have names : ∀ {b : Addr} {m : Str → Option Value}, s₁.heap.Ns b m → (hidT s₁.heap H).Ns b m := fun {b m} ⟨o, es, ep, e, d, r⟩ => ⟨o, es, ep, hidT_get e (free e (fun vs n q => by rw [d] at q; cases q) fun q => by rw [d] at q; cases q), d, r⟩
  have kin : K.In (hidT s₁.heap H) := fun b o e => hidT_get (KX b o e) (Classical.byContradiction fun z => by
    rcases hA b z with q | q
    · rw [q] at e z; rw [hK z] at e; cases e
    · obtain ⟨p, hp, ep⟩ := List.mem_map.mp q
      rw [← ep, nT p hp] at e; cases e)
  have M : Mod K mg (hidT s₁.heap H) := ⟨kin, names hns, ⟨mb, names hb, hbb⟩, let ⟨mc, h1, h2⟩ := hlim; ⟨mc, names h1, h2⟩⟩
  have TB : ∀ p ∈ cs, TabB (hidT s₁.heap H) mg p.1 p.2 := fun p hp => by
    refine ⟨?_, ?_, fun z => ?_⟩
    · obtain ⟨o, us, file, tf, flags, tg, inF, text, tt, e1, r1, r2, r3, r⟩ := C p hp
      refine ⟨o, us, file, tf, flags, tg, inF, text, tt, hidT_get e1 (free e1 (fun vs n q => by rw [r2] at q; cases q) fun q => ?_), r1, r2, r3, r⟩
      rw [r2] at q
      cases q
      simp at r3
    · obtain ⟨bm, ob, b1, b2, b3, b4, b5, b6⟩ := hbm
      refine ⟨bm, ob, b1, b2, fun q => ?_, fun q => ?_, hidT_get b3 (free b3 (fun vs n q => by rw [b6] at q; cases q) fun q => by rw [b6] at q; cases q), b4, b5, b6⟩
      · obtain ⟨o, es, ep, e, hd, _⟩ := hns
        rw [q, e] at b3
        cases b3
        rw [hd] at b6
        cases b6
      · rw [q, hT p hp] at b3
        cases b3
        cases b6
    · obtain ⟨o, es, ep, e, hd, _⟩ := hns
      rw [z, hT p hp] at e
      cases e
      cases hd
  have e0 : Env0 P w K mg (hidT s₁.heap H) callerA [] s₁ H := ⟨rfl, M, fun b o e => of_hidT e, Nat.le_of_eq (hidT_size _ _), trivial, fun b hb => absurd (show b ∈ ([] : List Addr) from hb) (by simp), hok, .of_eq hg⟩
  refine codeAny_mono ((F _ kin (names hns) TB).run callerA [] s₁ H ⟨[.ref a], []⟩ [.ref a] [.ref a] _ _ rfl hr e0 (hbind s₁ (.ref a)) (.cons rfl .nil) (hsp H hH hS)) fun r s' h => ?_
  match r, h with
  | .error e, h => exact False.elim h
  | .ok (.ret u), h =>
    obtain ⟨v, H', os, bare, un, hok', r', q⟩ := h
    obtain rfl : v = .bl true := q
    obtain rfl : u = Value.bool true := r'
    have key : ∀ b o, b ∉ cs.map (·.2) → s₁.heap.get? b = some o → s'.heap.get? b = some o := fun b o nb e => by
      rcases hO b nb with z | ⟨ob, xs, z⟩
      · exact un.keep b o e z (fun z => absurd (show b ∈ ([] : List Addr) from z) (by simp)) (by simp)
      · obtain ⟨e1, _⟩ := hok b _ z
        obtain ⟨e2, _⟩ := hok' b _ (un.frzs b ob _ z)
        rw [e] at e1
        cases e1
        exact e2
    have tb : ∀ b, b ∈ cs.map (·.2) → ∃ more, s'.heap.get? b = some { cls := .none, data := .fields (#[] ++ more) } := fun b hb => by
      obtain ⟨p, hp, rfl⟩ := List.mem_map.mp hb
      obtain ⟨more, zm⟩ := un.tbls p.2 #[] (hH p hp)
      exact ⟨more, hok' p.2 _ zm⟩
    refine ⟨rfl, ⟨fun b o e => ?_, fun b o e => ?_⟩, os, bare⟩
    · by_cases hb : b ∈ cs.map (·.2)
      · obtain ⟨more, hm⟩ := tb b hb
        have hT0 := isT b hb
        rw [hT0] at e
        cases e
        obtain ⟨p, hp, rfl⟩ := List.mem_map.mp hb
        exact .inr (.inl ⟨((C p hp).tab (hT p hp)).isCodeTable, rfl, #[], more, rfl, hm⟩)
      · exact .inl (key b o hb e)
    · by_cases hb : b ∈ cs.map (·.2)
      · obtain ⟨more, hm⟩ := tb b hb
        exact ⟨_, hm⟩
      · exact ⟨o, key b o hb e⟩
theorem law_callGTs (KX : K.In s₁.heap) (hns : s₁.heap.Ns mainGlobals mg) (hb : s₁.heap.Ns builtinsNs mb) (hbb : ∀ x : Str, x ≠ "__name__" → mb x = bootBuiltins x) (hlim : s₁.heap.NoLimit) (hg : s₁.gens = #[])
    (hT : ∀ p ∈ cs, s₁.heap.get? p.2 = some { cls := .none, data := .fields #[] }) (nT : ∀ p ∈ cs, K.lookup p.2 = none) (C : ∀ p ∈ cs, PySem.W.CodeHd s₁.heap p.1 p.2)
    (hbm : ∃ (bm : Addr) (ob : Obj), mg "__builtins__" = some (.ref bm) ∧ bm ≠ builtinsNs ∧ s₁.heap.get? bm = some ob ∧ ob.cls = .type "module" ∧ ob.dict = some builtinsNs ∧ ob.data = .plain)
    (ha : s₁.heap.get? a = some { cls := .type "list", data := .seq vs.toArray }) (hi : IntsAre vs ns) (hl : ns.length ≤ sizeLine) (hr : Room k callerA)
    (F : ∀ base : Heap, K.In base → base.Ns mainGlobals mg → (∀ p ∈ cs, TabB base mg p.1 p.2) → FnOkG P w K mg base k fa fd [x] sp) (hbind : ∀ (s : Shared) (u : Value), BindsTo s fd ⟨[u], []⟩ [(x, u)])
    (hsp : ∀ H : Hp, (∀ p ∈ cs, H p.2 = some (.tbl #[])) → SqL K H a (ns.map V.int) → sp [.ref a] H (fun v _ => v = .bl true) fun _ _ _ => False) :
    codeAny (model P w) callerA (.call (.ref fa) ⟨[.ref a], []⟩) (fun r s' => r = .ok (.ret (.bool true)) ∧ OldK s₁.heap s'.heap ∧ s'.os = s₁.os ∧ AllBare s'.gens) s₁ := by
  have rv := vals_ints hi
  have isT : ∀ b : Addr, b ∈ cs.map (·.2) → s₁.heap.get? b = some { cls := .none, data := .fields #[] } := fun b hb => by
    obtain ⟨p, hp, e⟩ := List.mem_map.mp hb
    rw [← e]
    exact hT p hp
  have memT : ∀ p ∈ cs, p.2 ∈ cs.map (·.2) := fun p hp => List.mem_map.mpr ⟨p, hp, rfl⟩
  have naT : a ∉ cs.map (·.2) := fun z => by
    have q := isT a z
    rw [ha] at q
    cases congrArg Obj.data (Option.some.inj q)
  cases hk : K.lookup a with
  | some o =>
    have e := KX a o hk
    rw [ha] at e
    cases e
    refine law_coreGTs KX hns hb hbb hlim hg hT nT C hbm ha hr F hbind hsp (fun b => if b ∈ cs.map (·.2) then some (.tbl #[]) else none) (fun p hp => if_pos (memT p hp)) (fun b nb => .inl (if_neg nb)) (.inr ⟨_, vs.toArray, _, hk, rfl, rfl, rfl, by rw [List.size_toArray, hi.length]; exact hl, by simpa using rv⟩) (fun b u z => ?_) (fun b z => ?_) fun z => absurd (if_neg naT) z
    · by_cases hb : b ∈ cs.map (·.2)
      · have z' := (if_pos hb).symm.trans z
        cases z'
        exact isT b hb
      · have z' := (if_neg hb).symm.trans z
        cases z'
    · by_cases hb : b ∈ cs.map (·.2)
      · exact .inr hb
      · exact absurd (if_neg hb) z
  | none =>
    refine law_coreGTs KX hns hb hbb hlim hg hT nT C hbm ha hr F hbind hsp (fun b => if b ∈ cs.map (·.2) then some (.tbl #[]) else if b = a then some (.frz { cls := .type "list", data := .seq vs.toArray } (.lst (ns.map V.int))) else none) (fun p hp => if_pos (memT p hp)) (fun b nb => ?_) (.inl (.inr ⟨{ cls := .type "list", data := .seq vs.toArray }, (if_neg naT).trans (if_pos rfl)⟩)) (fun b u z => ?_) (fun b z => ?_) fun _ => hk
    · by_cases hb : b = a
      · exact .inr ⟨_, _, (if_neg nb).trans (if_pos hb)⟩
      · exact .inl ((if_neg nb).trans (if_neg hb))
    · by_cases hb : b ∈ cs.map (·.2)
      · have z' := (if_pos hb).symm.trans z
        cases z'
        exact isT b hb
      · have z1 := (if_neg hb).symm.trans z
        by_cases hb2 : b = a
        · have z' := (if_pos hb2).symm.trans z1
          cases z'
          rw [hb2]
          exact ⟨ha, by rw [List.length_map]; exact hl, vs, _, rv, ha⟩
        · have z' := (if_neg hb2).symm.trans z1
          cases z'
    · by_cases hb : b ∈ cs.map (·.2)
      · exact .inr hb
      · by_cases hb2 : b = a
        · exact .inl hb2
        · exact absurd ((if_neg hb).trans (if_neg hb2)) z
end
/-- the end of a law with tables of code objects, where no repr runs around; ys: the defs whose tables they are -/
theorem walk_ofGTs {l : PySem.W.OpenLaw} {n k : Nat} {q : Program} {loose : List Str} {XP : (Str → Option Value) → Heap → Prop} {YP : World → Heap → Prop} {d : DefRec} {x : Str} {ys : List Str}
    (hn : l.most = some n) (hn2 : n ≤ sizeLine) (hdf : d.params.defaults = []) (hr : Room k callerA) (hrec : ∀ y ∈ ys, ∃ dy, (PyProof.Rows.recsOf q).find? (fun e => e.name == y) = some dy)
    (F : ∀ (w : World) (mg : Str → Option Value) (fa : Addr) (h : Heap), YP w h → h.Ns mainGlobals mg → mg d.name = some (.ref fa) →
      ∃ (K : PySem.W.Frag) (fd : FuncData) (sp : Sp) (cs : List (Addr × Addr)), K.In h ∧ (∀ p ∈ cs, ∃ y ∈ ys, PySem.W.tabIn K y = some p) ∧ (∀ p ∈ cs, K.lookup p.2 = none) ∧ (∀ (s : Shared) (u : Value), BindsTo s fd ⟨[u], []⟩ [(x, u)]) ∧
        (∀ (H : Hp) (a : Addr) (ns : List Int), ns.length ≤ n → (∀ p ∈ cs, H p.2 = some (.tbl #[])) → SqL K H a (ns.map V.int) → sp [.ref a] H (fun v _ => v = .bl true) fun _ _ _ => False) ∧
        ∀ base : Heap, K.In base → base.Ns mainGlobals mg → (∀ p ∈ cs, TabB base mg p.1 p.2) → FnOkG l.prog w K mg base k fa fd [x] sp) :
    PySem.W.WalkO q loose XP YP l.row.toRowW d [] (fun f vs => PySem.call f vs) := by
  refine Att.attach_call hn hdf fun w s₀ s₁ mg mb fa o pm cd doc a vs ns G Y ho hd hcd hmg hobj hints hlen hg => ?_
  obtain ⟨K, fd, sp, cs, KX, ht, nT, hb, hsp, hF⟩ := F w mg fa _ Y G.T.g hmg
  have tb : ∀ p ∈ cs, PySem.W.CodeHd s₁.heap p.1 p.2 ∧ s₁.heap.get? p.2 = some { cls := .none, data := .fields #[] } := fun p hp => by
    obtain ⟨y, hy, e⟩ := ht p hp
    obtain ⟨dy, hd⟩ := hrec y hy
    exact PySem.W.tab_of G.T KX hd e
  exact law_callGTs KX G.T.g G.T.b G.T.builtins G.T.nolimit hg (fun p hp => (tb p hp).2) nT (fun p hp => (tb p hp).1) G.T.bmain hobj hints (Nat.le_trans hlen hn2) hr hF hb (fun H hH hS => hsp H a ns hlen hH hS)
end EX2
set_option Elab.async false
set_option linter.all false
set_option maxRecDepth 100000
set_option maxHeartbeats 0
namespace EX2
open PySem PySem.Spec PyProof.Rows L2
theorem SuF.binds {P : Program} {K : PySem.W.Frag} {qual : Str} {st : Stmt} {C f : Addr} {fd : FuncData} {ps : List Str} (F : SuF P K qual st C f fd)
    (h : ∀ (doc pm ctv : Value) (cc c : Addr) (us : List Value), us.length = ps.length → bindArgs ((NdefX.NF.mk "__init__" qual (defArgs st) (defBody st) (defScope st) [("__class__", cc)] c).fd doc pm ctv) ⟨us, []⟩ = pure (ps.zip us)) : Binds K fd ps [] := by
  obtain ⟨oc, od, osl, doc, pm, ctv, cc, c, ocl, occ, vs, file, tf, rfl, _⟩ := F.ex
  exact .all (h doc pm ctv cc c)
theorem any_free {K : PySem.W.Frag} (hb : bltB K = true) : PySem.W.nsIn K cStatics "thirdparty.any" = some none := by
  unfold bltB at hb
  simp only [Bool.and_eq_true] at hb
  exact He.eqO_ok hb.2.2.1
end EX2
namespace K06

open PySem PySem.Spec PyProof.Rows L2
theorem empB_ok {K : PySem.W.Frag} {x : Str} (h : empB K x = true) : EX2.KT K (kdAt x K) := by
  unfold empB at h
  split at h
  · rename_i c dd its n kk e
    rw [Bool.and_eq_true, decide_eq_true_eq, decide_eq_true_eq] at h
    refine ⟨_, its, _, e, by rw [h.1], rfl, by rw [h.2]; exact Nat.zero_le _, ?_⟩
    have : its = #[] := Array.size_eq_zero_iff.mp h.2
    rw [this]
    exact .nil
  · cases h
theorem cvB_ok {K : PySem.W.Frag} {f : Str} {n : Int} (h : cvB K f n = true) : ClX.CRead K (He.ga K "Tables") (.type "type") ∧ ∃ u, ClX.CVal K (He.ga K "Tables") (.type "type") f (.int n) u := by
  unfold cvB at h
  rw [Bool.and_eq_true, Bool.and_eq_true] at h
  obtain ⟨h1, h2, h3⟩ := h
  refine ⟨⟨h1, He.eqO_ok h2⟩, ?_⟩
  split at h3
  · rename_i m tk e
    exact ⟨_, e, by rw [← of_decide_eq_true h3]; exact ⟨tk, rfl⟩⟩
  · cases h3
theorem tab1 {K : PySem.W.Frag} (h : (lams.all fun y => match PySem.W.tabIn K y with
  | some (_, T) => (K.lookup T).isNone
  | none => false) = true) {y : Str} (hy : y ∈ lams) : ∃ c T, PySem.W.tabIn K y = some (c, T) ∧ K.lookup T = none := by
  have h1 := List.all_eq_true.mp h y hy
  split at h1
  · rename_i c T e
    exact ⟨c, T, e, Option.isNone_iff_eq_none.mp h1⟩
  · cases h1
theorem insC_ok {K : PySem.W.Frag} {C : Str} (hbl : EX2.bltB K = true) (hc : insC K C = true) : InsK K (He.ga K C) := by
  unfold EX2.bltB at hbl
  rw [Bool.and_eq_true, Bool.and_eq_true] at hbl
  unfold insC at hc
  simp only [Bool.and_eq_true] at hc
  have hk : ∀ t ∈ (["list", "NoneType", "str", "tuple", "int"] : List String), PySem.W.kitOne K (.type t) (.ref (He.ga K C)) = some false := fun t ht => of_decide_eq_true (List.all_eq_true.mp hc.2.2 t ht)
  exact ⟨He.eqO_ok hc.1, He.eqO_ok hbl.1, of_decide_eq_true hbl.2.1, of_decide_eq_true hc.2.1, hk _ (by simp), hk _ (by simp), hk _ (by simp), hk _ (by simp), hk _ (by simp)⟩
abbrev PP : Program := RW.prog
theorem htop : (PP.main.scope.names.lookup ("super" : Str)).isSome = false := by decide +kernel
theorem facts {w : World} {K : PySem.W.Frag} {h : Heap} {mg : Str → Option Value} {f : Addr} (X : K.In h) (G : h.Ns mainGlobals mg) (hfa : mg ("law" : Str) = some (.ref f)) (c : EX2.SaysZ fa fn [] xs pds ex w K) :
    ∃ (fd : FuncData) (cs : List (Addr × Addr)) (Tb : List (Addr × Str)), (∀ p ∈ Tb, ∃ q ∈ cs, p.1 = q.2) ∧ (∀ p ∈ cs, ∃ y ∈ lams, PySem.W.tabIn K y = some p) ∧ (∀ p ∈ cs, K.lookup p.2 = none) ∧ (∀ (s : Shared) (v : Value), BindsTo s fd ⟨[v], []⟩ [("_law_script", v)]) ∧
      ∀ base : Heap, K.In base → base.Ns mainGlobals mg → (∀ p ∈ cs, LamX.TabB base mg p.1 p.2) → EX2.FnOkG PP w K mg base 12 f fd ["_law_script"] (spLaw K Tb) := by
  have d := c.t.d
  have hx := c.more
  unfold ex at hx
  obtain ⟨hTb, hx⟩ := Bool.and_eq_true_iff.mp hx
  obtain ⟨hx0, hx⟩ := Bool.and_eq_true_iff.mp hx
  obtain ⟨hIt, hx0⟩ := Bool.and_eq_true_iff.mp hx0
  obtain ⟨hM8, hC40⟩ := Bool.and_eq_true_iff.mp hx0
  obtain ⟨hx, hIns⟩ := Bool.and_eq_true_iff.mp hx
  obtain ⟨hb, hx⟩ := Bool.and_eq_true_iff.mp hx
  obtain ⟨hnod, hC⟩ := Bool.and_eq_true_iff.mp hx
  unfold insB at hIns
  obtain ⟨hI1, hIns⟩ := Bool.and_eq_true_iff.mp hIns
  obtain ⟨hI2, hIns⟩ := Bool.and_eq_true_iff.mp hIns
  obtain ⟨hI3, hIns⟩ := Bool.and_eq_true_iff.mp hIns
  obtain ⟨hPr, hEm⟩ := Bool.and_eq_true_iff.mp hIns
  have hB : EX2.bltB K = true := by
    have h2 := hb
    unfold EX2.sudB at h2
    rw [Bool.and_eq_true] at h2
    exact h2.1
  unfold tabB at hTb
  obtain ⟨hTa, hTn⟩ := Bool.and_eq_true_iff.mp hTb
  obtain ⟨c1, T1, ht1, hk1⟩ := tab1 hTa (y := "_law_loaders_right") (by simp [lams])
  obtain ⟨c2, T2, ht2, hk2⟩ := tab1 hTa (y := "_law_parts_right") (by simp [lams])
  obtain ⟨c3, T3, ht3, hk3⟩ := tab1 hTa (y := "_law_asks_right") (by simp [lams])
  obtain ⟨c4, T4, ht4, hk4⟩ := tab1 hTa (y := "law") (by simp [lams])
  have hnd := of_decide_eq_true hTn
  simp only [lams, List.map_cons, List.map_nil, ht1, ht2, ht3, ht4, Option.map_some, List.nodup_cons, List.mem_cons, List.not_mem_nil, or_false, Option.some.injEq, not_or, not_false_eq_true, List.nodup_nil, and_true] at hnd
  obtain ⟨⟨n12, n13, n14⟩, ⟨n23, n24⟩, n34⟩ := hnd
  have hItT : PySem.W.fnIn K (He.ma K (He.ga K "Tables") "__getitem__") = true := List.all_eq_true.mp hIt "Tables" (by simp)
  have hItL : PySem.W.fnIn K (He.ma K (He.ga K "Loader") "__getitem__") = true := List.all_eq_true.mp hIt "Loader" (by simp)
  simp only [List.all_cons, List.all_nil, Bool.and_eq_true, id_eq] at hPr
  obtain ⟨f0, F0⟩ := d.def_ 0 (d := dfn "_wall" 0) rfl
  obtain ⟨f1, F1⟩ := d.def_ 1 (d := dfn "is_integer" 14) rfl
  obtain ⟨f2, F2⟩ := d.def_ 2 (d := dfn "is_in_range" 15) rfl
  obtain ⟨f3, F3⟩ := d.def_ 3 (d := dfn "is_name" 16) rfl
  obtain ⟨f4, F4⟩ := d.def_ 4 (d := dfn "is_type" 17) rfl
  obtain ⟨f5, F5⟩ := d.def_ 5 (d := dfn "is_sequence" 18) rfl
  obtain ⟨f6, F6⟩ := d.def_ 6 (d := dfn "fits" 24) rfl
  obtain ⟨f7, F7⟩ := d.def_ 7 (d := dfn "is_instruction" 25) rfl
  obtain ⟨f8, F8⟩ := d.def_ 8 (d := dfn "drawers_in" 26) rfl
  obtain ⟨f9, F9⟩ := d.def_ 9 (d := dfn "targets_in" 27) rfl
  obtain ⟨f10, F10⟩ := d.def_ 10 (d := dfn "is_code" 28) rfl
  obtain ⟨f11, F11⟩ := d.def_ 11 (d := dfn "is_size" 29) rfl
  obtain ⟨f12, F12⟩ := d.def_ 12 (d := dfn "is_class_name" 33) rfl
  obtain ⟨f13, F13⟩ := d.def_ 13 (d := dfn "are_marks" 34) rfl
  obtain ⟨f14, F14⟩ := d.def_ 14 (d := dfn "is_field" 35) rfl
  obtain ⟨f15, F15⟩ := d.def_ 15 (d := dfn "are_fields" 36) rfl
  obtain ⟨f16, F16⟩ := d.def_ 16 (d := dfn "are_methods" 37) rfl
  obtain ⟨f17, F17⟩ := d.def_ 17 (d := dfn "_law_source" 43) rfl
  obtain ⟨f18, F18⟩ := d.def_ 18 (d := dfn "_law_draw" 44) rfl
  obtain ⟨f19, F19⟩ := d.def_ 19 (d := dfn "_law_said" 45) rfl
  obtain ⟨f20, F20⟩ := d.def_ 20 (d := dfn "_law_loaders_right" 46) rfl
  obtain ⟨f21, F21⟩ := d.def_ 21 (d := dfn "_law_parts_right" 47) rfl
  obtain ⟨f22, F22⟩ := d.def_ 22 (d := dfn "_law_asks_right" 48) rfl
  obtain ⟨f23, F23⟩ := d.def_ 23 (d := dfn "law" 49) rfl
  obtain ⟨f24, F24⟩ := d.def_ 24 (d := mtk "ClassText" "__init__" "ClassText.__init__" 38 0 [("above", .str "top"), ("marks", .adr (kdAt "marks")), ("fields", .adr (kdAt "fields")), ("methods", .adr (kdAt "methods"))]) rfl
  obtain ⟨f25, F25⟩ := d.def_ 25 (d := mth "ClassText" "parts" "ClassText.parts" 38 9) rfl
  obtain ⟨f26, F26⟩ := d.def_ 26 (d := mth "ClassText" "__eq__" "ClassText.__eq__" 38 10) rfl
  obtain ⟨f27, F27⟩ := d.def_ 27 (d := mth "Loader" "__init__" "Loader.__init__" 40 0) rfl
  obtain ⟨f28, F28⟩ := d.def_ 28 (d := mth "Loader" "__contains__" "Loader.__contains__" 40 5) rfl
  obtain ⟨f29, F29⟩ := d.def_ 29 (d := mth "Loader" "__getitem__" "Loader.__getitem__" 40 7) rfl
  obtain ⟨f30, F30⟩ := d.def_ 30 (d := mth "Tables" "__init__" "Tables.__init__" 41 2) rfl
  obtain ⟨f31, F31⟩ := d.def_ 31 (d := mth "Tables" "check_loader" "Tables.check_loader" 41 4) rfl
  obtain ⟨f32, F32⟩ := d.def_ 32 (d := mtk "Tables" "add_loader" "Tables.add_loader" 41 5 [("rest", .non)]) rfl
  obtain ⟨f33, F33⟩ := d.def_ 33 (d := mth "Tables" "check_free" "Tables.check_free" 41 6) rfl
  obtain ⟨f34, F34⟩ := d.def_ 34 (d := mth "Tables" "add_class" "Tables.add_class" 41 7) rfl
  obtain ⟨f35, F35⟩ := d.def_ 35 (d := mth "Tables" "ask" "Tables.ask" 41 8) rfl
  obtain ⟨f36, F36⟩ := d.def_ 36 (d := mth "Tables" "next_of" "Tables.next_of" 41 9) rfl
  obtain ⟨f37, F37⟩ := d.def_ 37 (d := mth "Tables" "way" "Tables.way" 41 10) rfl
  obtain ⟨f38, F38⟩ := d.def_ 38 (d := mth "Tables" "identity" "Tables.identity" 41 11) rfl
  obtain ⟨f39, F39⟩ := d.def_ 39 (d := mth "Tables" "text" "Tables.text" 41 12) rfl
  obtain ⟨f40, F40⟩ := d.def_ 40 (d := mth "Tables" "without" "Tables.without" 41 13) rfl
  obtain ⟨f41, F41⟩ := d.def_ 41 (d := mth "Tables" "copy" "Tables.copy" 41 14) rfl
  obtain ⟨f42, F42⟩ := d.def_ 42 (d := mth "Tables" "__getitem__" "Tables.__getitem__" 41 15) rfl
  obtain ⟨f43, F43⟩ := d.def_ 43 (d := mth "Tables" "__contains__" "Tables.__contains__" 41 16) rfl
  obtain ⟨f44, F44⟩ := d.def_ 44 (d := mth "Tables" "__eq__" "Tables.__eq__" 41 19) rfl
  obtain ⟨f45, F45⟩ := d.def_ 45 (d := mth "Tables" "parts" "Tables.parts" 41 20) rfl
  have e := hfa.symm.trans (He.glo_ok X G (d.fact 4 (f := .glo "law") rfl))
  cases e
  have clC : Cls K (He.ga K "ClassText") := He.cls_ok (d.fact 7 (f := .cls "ClassText") rfl)
  have clL : Cls K (He.ga K "Loader") := He.cls_ok (d.fact 17 (f := .cls "Loader") rfl)
  have clT : Cls K (He.ga K "Tables") := He.cls_ok (d.fact 24 (f := .cls "Tables") rfl)
  have gS := He.free_ok X G (d.fact 80 (f := .free "super") rfl)
  have T : Txt K mg := ⟨He.free_ok X G (d.fact 67 (f := .free "isinstance") rfl), He.free_ok X G (d.fact 68 (f := .free "len") rfl), He.free_ok X G (d.fact 69 (f := .free "all") rfl), He.free_ok X G (d.fact 73 (f := .free "str") rfl), He.free_ok X G (d.fact 77 (f := .free "max") rfl), He.free_ok X G (d.fact 78 (f := .free "min") rfl), He.free_ok X G (d.fact 71 (f := .free "int") rfl), He.free_ok X G (d.fact 76 (f := .free "range") rfl), He.free_ok X G (d.fact 75 (f := .free "tuple") rfl), He.free_ok X G (d.fact 70 (f := .free "any") rfl), He.free_ok X G (d.fact 72 (f := .free "bool") rfl), He.free_ok X G (d.fact 74 (f := .free "list") rfl), He.free_ok X G (d.fact 83 (f := .free "zip") rfl), He.free_ok X G (d.fact 81 (f := .free "set") rfl), He.free_ok X G (d.fact 84 (f := .free "sorted") rfl)⟩
  have D : Defs w K mg := ⟨T, He.str_ok X G (d.fact 0 (f := .str "LETTERS" "abcdefghijklmnopqrstuvwxyz") rfl), He.str_ok X G (d.fact 1 (f := .str "TOP_NAME" "top") rfl), He.int_ok X G (d.fact 2 (f := .int "MOST_PARTS" 8) rfl), ⟨_, f3, He.glo_ok X G (d.fact 47 (f := .glo "is_name") rfl), F3⟩,
    ⟨_, f5, He.glo_ok X G (d.fact 49 (f := .glo "is_sequence") rfl), F5⟩,
    ⟨_, f12, He.glo_ok X G (d.fact 56 (f := .glo "is_class_name") rfl), F12⟩,
    ⟨_, f13, He.glo_ok X G (d.fact 57 (f := .glo "are_marks") rfl), F13⟩,
    ⟨_, f15, He.glo_ok X G (d.fact 59 (f := .glo "are_fields") rfl), F15⟩,
    ⟨_, f16, He.glo_ok X G (d.fact 60 (f := .glo "are_methods") rfl), F16⟩,
    ⟨_, f17, He.glo_ok X G (d.fact 61 (f := .glo "_law_source") rfl), F17⟩,
    ⟨_, f18, He.glo_ok X G (d.fact 62 (f := .glo "_law_draw") rfl), F18⟩⟩
  obtain ⟨gInvalidName, fdInvalidName, FInvalidName⟩ := EX2.sud_at (P := PP) hb c.sup 0 (d := sd "InvalidName" "InvalidName.__init__" 3 ["given"]) rfl
  obtain ⟨gInvalidClass, fdInvalidClass, FInvalidClass⟩ := EX2.sud_at (P := PP) hb c.sup 1 (d := sd "InvalidClass" "InvalidClass.__init__" 5 ["given"]) rfl
  obtain ⟨gNameTaken, fdNameTaken, FNameTaken⟩ := EX2.sud_at (P := PP) hb c.sup 2 (d := sd "NameTaken" "NameTaken.__init__" 6 ["given"]) rfl
  obtain ⟨gUnknownLoader, fdUnknownLoader, FUnknownLoader⟩ := EX2.sud_at (P := PP) hb c.sup 3 (d := sd "UnknownLoader" "UnknownLoader.__init__" 7 ["given"]) rfl
  obtain ⟨gUnknownClass, fdUnknownClass, FUnknownClass⟩ := EX2.sud_at (P := PP) hb c.sup 4 (d := sd "UnknownClass" "UnknownClass.__init__" 8 ["loader", "word"]) rfl
  obtain ⟨gLimitExceeded, fdLimitExceeded, FLimitExceeded⟩ := EX2.sud_at (P := PP) hb c.sup 5 (d := sd "LimitExceeded" "LimitExceeded.__init__" 9 ["limit"]) rfl
  have b := FunD.bindsA (ps := ["_law_script"]) F23 fun _ _ _ _ _ _ us hl => match us, hl with | [_], _ => rfl
  refine ⟨f23, [(c1, T1), (c2, T2), (c3, T3), (c4, T4)], [(T1, qOf "_law_loaders_right" s_law_loaders_right), (T2, qOf "_law_parts_right" s_law_parts_right), (T3, qOf "_law_asks_right" s_law_asks_right), (T4, qOf "law" slaw)], ?_, ?_, ?_, fun s v => b s [v] rfl, fun base KB _ TBs => ?_⟩
  · intro p hp
    simp only [List.mem_cons, List.not_mem_nil, or_false] at hp
    rcases hp with rfl | rfl | rfl | rfl
    · exact ⟨(c1, T1), by simp, rfl⟩
    · exact ⟨(c2, T2), by simp, rfl⟩
    · exact ⟨(c3, T3), by simp, rfl⟩
    · exact ⟨(c4, T4), by simp, rfl⟩
  · intro p hp
    simp only [List.mem_cons, List.not_mem_nil, or_false] at hp
    rcases hp with rfl | rfl | rfl | rfl
    · exact ⟨_, by simp [lams], ht1⟩
    · exact ⟨_, by simp [lams], ht2⟩
    · exact ⟨_, by simp [lams], ht3⟩
    · exact ⟨_, by simp [lams], ht4⟩
  · intro p hp
    simp only [List.mem_cons, List.not_mem_nil, or_false] at hp
    rcases hp with rfl | rfl | rfl | rfl
    · exact hk1
    · exact hk2
    · exact hk3
    · exact hk4
  have XInvalidName : ExF PP w K mg base "InvalidName" "given" := ⟨He.glo_ok X G (d.fact 85 (f := .glo "InvalidName") rfl), gInvalidName, ⟨fdInvalidName, EX2.ok_x1 FInvalidName gInvalidName.t (gInvalidName.no _ (List.mem_singleton.mpr rfl)) rfl (NdefX.nscope_by (by decide +kernel)) rfl rfl gInvalidName.su gInvalidName.self (EX2.any_free hB) rfl gS htop (by decide) (by decide),
    FInvalidName.binds fun _ _ _ _ _ us hl => match us, hl with | [_, _], _ => rfl⟩⟩
  have XInvalidClass : ExF PP w K mg base "InvalidClass" "given" := ⟨He.glo_ok X G (d.fact 86 (f := .glo "InvalidClass") rfl), gInvalidClass, ⟨fdInvalidClass, EX2.ok_x1 FInvalidClass gInvalidClass.t (gInvalidClass.no _ (List.mem_singleton.mpr rfl)) rfl (NdefX.nscope_by (by decide +kernel)) rfl rfl gInvalidClass.su gInvalidClass.self (EX2.any_free hB) rfl gS htop (by decide) (by decide),
    FInvalidClass.binds fun _ _ _ _ _ us hl => match us, hl with | [_, _], _ => rfl⟩⟩
  have XNameTaken : ExF PP w K mg base "NameTaken" "given" := ⟨He.glo_ok X G (d.fact 87 (f := .glo "NameTaken") rfl), gNameTaken, ⟨fdNameTaken, EX2.ok_x1 FNameTaken gNameTaken.t (gNameTaken.no _ (List.mem_singleton.mpr rfl)) rfl (NdefX.nscope_by (by decide +kernel)) rfl rfl gNameTaken.su gNameTaken.self (EX2.any_free hB) rfl gS htop (by decide) (by decide),
    FNameTaken.binds fun _ _ _ _ _ us hl => match us, hl with | [_, _], _ => rfl⟩⟩
  have XUnknownLoader : ExF PP w K mg base "UnknownLoader" "given" := ⟨He.glo_ok X G (d.fact 88 (f := .glo "UnknownLoader") rfl), gUnknownLoader, ⟨fdUnknownLoader, EX2.ok_x1 FUnknownLoader gUnknownLoader.t (gUnknownLoader.no _ (List.mem_singleton.mpr rfl)) rfl (NdefX.nscope_by (by decide +kernel)) rfl rfl gUnknownLoader.su gUnknownLoader.self (EX2.any_free hB) rfl gS htop (by decide) (by decide),
    FUnknownLoader.binds fun _ _ _ _ _ us hl => match us, hl with | [_, _], _ => rfl⟩⟩
  have XUnknownClass : ExU PP w K mg base := ⟨He.glo_ok X G (d.fact 89 (f := .glo "UnknownClass") rfl), gUnknownClass, ⟨fdUnknownClass, EX2.ok_x2 FUnknownClass gUnknownClass.t (gUnknownClass.no "loader" (by simp [sd])) (gUnknownClass.no "word" (by simp [sd])) rfl (NdefX.nscope_by (by decide +kernel)) rfl rfl gUnknownClass.su gUnknownClass.self (EX2.any_free hB) rfl gS htop (by decide) (by decide) (by decide) (by decide),
    FUnknownClass.binds fun _ _ _ _ _ us hl => match us, hl with | [_, _, _], _ => rfl⟩⟩
  have XLimitExceeded : ExF PP w K mg base "LimitExceeded" "limit" := ⟨He.glo_ok X G (d.fact 90 (f := .glo "LimitExceeded") rfl), gLimitExceeded, ⟨fdLimitExceeded, EX2.ok_x1 FLimitExceeded gLimitExceeded.t (gLimitExceeded.no _ (List.mem_singleton.mpr rfl)) rfl (NdefX.nscope_by (by decide +kernel)) rfl rfl gLimitExceeded.su gLimitExceeded.self (EX2.any_free hB) rfl gS htop (by decide) (by decide),
    FLimitExceeded.binds fun _ _ _ _ _ us hl => match us, hl with | [_, _], _ => rfl⟩⟩
  obtain ⟨fGn, FGn⟩ := c.path 0 (d := pdc "ClassText" "name" "ClassText.name" 38 1) rfl
  obtain ⟨fGc, FGc⟩ := c.path 1 (d := pdc "Loader" "classes" "Loader.classes" 40 4) rfl
  have TKv : TK PP w K mg base := {
    d := D
    c := ⟨clT, He.noat_ok (d.fact 25 (f := .noat "Tables" "texts") rfl), He.noat_ok (d.fact 26 (f := .noat "Tables" "asked") rfl), He.noat_ok (d.fact 27 (f := .noat "Tables" "rests") rfl)⟩
    un := XUnknownLoader
    nt := XNameTaken
    iN := XInvalidName
    ic := XInvalidClass
    le := XLimitExceeded
    uc := XUnknownClass
    hT := He.glo_ok X G (d.fact 22 (f := .glo "Tables") rfl)
    mkT := He.mkr_ok (d.fact 23 (f := .mkr "Tables") rfl)
    f___init__ := ⟨f30, F30⟩
    insT := insC_ok hB hI2
    m_check_loader := He.meth_ok (d.fact 28 (f := .meth "Tables" "check_loader") rfl)
    f_check_loader := ⟨f31, F31⟩
    m_add_loader := He.meth_ok (d.fact 29 (f := .meth "Tables" "add_loader") rfl)
    f_add_loader := ⟨f32, F32⟩
    m_check_free := He.meth_ok (d.fact 30 (f := .meth "Tables" "check_free") rfl)
    f_check_free := ⟨f33, F33⟩
    m_add_class := He.meth_ok (d.fact 31 (f := .meth "Tables" "add_class") rfl)
    f_add_class := ⟨f34, F34⟩
    m_ask := He.meth_ok (d.fact 32 (f := .meth "Tables" "ask") rfl)
    f_ask := ⟨f35, F35⟩
    m_next_of := He.meth_ok (d.fact 33 (f := .meth "Tables" "next_of") rfl)
    f_next_of := ⟨f36, F36⟩
    m_way := He.meth_ok (d.fact 34 (f := .meth "Tables" "way") rfl)
    f_way := ⟨f37, F37⟩
    m_identity := He.meth_ok (d.fact 35 (f := .meth "Tables" "identity") rfl)
    f_identity := ⟨f38, F38⟩
    m_text := He.meth_ok (d.fact 36 (f := .meth "Tables" "text") rfl)
    f_text := ⟨f39, F39⟩
    m_without := He.meth_ok (d.fact 37 (f := .meth "Tables" "without") rfl)
    f_without := ⟨f40, F40⟩
    m_copy := He.meth_ok (d.fact 38 (f := .meth "Tables" "copy") rfl)
    f_copy := ⟨f41, F41⟩
    m___getitem__ := He.meth_ok (d.fact 39 (f := .meth "Tables" "__getitem__") rfl)
    f___getitem__ := ⟨f42, F42⟩
    m___contains__ := He.meth_ok (d.fact 40 (f := .meth "Tables" "__contains__") rfl)
    f___contains__ := ⟨f43, F43⟩
    m___eq__ := He.meth_ok (d.fact 41 (f := .meth "Tables" "__eq__") rfl)
    f___eq__ := ⟨f44, F44⟩
    m_parts := He.meth_ok (d.fact 42 (f := .meth "Tables" "parts") rfl)
    f_parts := ⟨f45, F45⟩
    hL := He.glo_ok X G (d.fact 15 (f := .glo "Loader") rfl)
    mkL := He.mkr_ok (d.fact 16 (f := .mkr "Loader") rfl)
    clL := clL
    nL1 := He.noat_ok (d.fact 18 (f := .noat "Loader" "own_tables") rfl)
    nL2 := He.noat_ok (d.fact 19 (f := .noat "Loader" "own_name") rfl)
    fl___init__ := ⟨f27, F27⟩
    l___contains__ := He.meth_ok (d.fact 20 (f := .meth "Loader" "__contains__") rfl)
    fl___contains__ := ⟨f28, F28⟩
    l___getitem__ := He.meth_ok (d.fact 21 (f := .meth "Loader" "__getitem__") rfl)
    fl___getitem__ := ⟨f29, F29⟩
    git := hItT
    giL := hItL
    hC := He.glo_ok X G (d.fact 5 (f := .glo "ClassText") rfl)
    mkC := He.mkr_ok (d.fact 6 (f := .mkr "ClassText") rfl)
    ct := ⟨clC, He.noat_ok (d.fact 8 (f := .noat "ClassText" "own_name") rfl), He.noat_ok (d.fact 9 (f := .noat "ClassText" "own_above") rfl), He.noat_ok (d.fact 10 (f := .noat "ClassText" "own_marks") rfl), He.noat_ok (d.fact 11 (f := .noat "ClassText" "own_fields") rfl), He.noat_ok (d.fact 12 (f := .noat "ClassText" "own_methods") rfl)⟩
    insC := insC_ok hB hI1
    initC := ⟨f24, F24⟩
    e1 := empB_ok (List.all_eq_true.mp hEm "marks" (by simp))
    e2 := empB_ok (List.all_eq_true.mp hEm "fields" (by simp))
    e3 := empB_ok (List.all_eq_true.mp hEm "methods" (by simp))
    hMe := He.glo_ok X G (d.fact 43 (f := .glo "Method") rfl)
    nameC := ⟨EX2.propB_ok hPr.1, fGn, EX2.ok_get (N := ["self"]) FGn ⟨rfl, rfl, rfl, by decide +kernel, rfl, by decide +kernel, by decide +kernel⟩ rfl (by rfl) clC (He.noat_ok (d.fact 8 (f := .noat "ClassText" "own_name") rfl)), FunD.bindsN FGn fun _ _ _ _ _ _ us hl => match us, hl with | [_], _ => rfl⟩
    cR := (cvB_ok hM8).1
    c8 := (cvB_ok hM8).2
    c40 := (cvB_ok hC40).2
    gdict := He.free_ok X G (d.fact 82 (f := .free "dict") rfl)
    gR := He.free_ok X G (d.fact 79 (f := .free "repr") rfl)
    c_parts := He.meth_ok (d.fact 13 (f := .meth "ClassText" "parts") rfl)
    fc_parts := ⟨f25, F25⟩
    c___eq__ := He.meth_ok (d.fact 14 (f := .meth "ClassText" "__eq__") rfl)
    fc___eq__ := ⟨f26, F26⟩
    cls := ⟨EX2.propB_ok hPr.2.1, fGc, FGc⟩ }
  have hnod2 := of_decide_eq_true hnod
  have NN : NamesNe K := hnod2
  have sdv : EX2.SysD base := EX2.sysD_of hB KB
  have said : ∃ f fd, mg "_law_said" = some (.ref f) ∧ FnP K "_law_said" ssaid f fd := ⟨_, f19, He.glo_ok X G (d.fact 63 (f := .glo "_law_said") rfl), F19⟩
  have TB1 : LamX.TabB base mg c1 T1 := TBs (c1, T1) (by simp)
  have hcd1 : ∀ cdv, EX2.CodeAt K (He.ga K "_law_loaders_right") cdv → cdv = .ref c1 := fun cdv hc => EX2.code_of X G (He.glo_ok X G (d.fact 64 (f := .glo "_law_loaders_right") rfl)) ht1 hc
  have TB2 : LamX.TabB base mg c2 T2 := TBs (c2, T2) (by simp)
  have hcd2 : ∀ cdv, EX2.CodeAt K (He.ga K "_law_parts_right") cdv → cdv = .ref c2 := fun cdv hc => EX2.code_of X G (He.glo_ok X G (d.fact 65 (f := .glo "_law_parts_right") rfl)) ht2 hc
  have TB3 : LamX.TabB base mg c3 T3 := TBs (c3, T3) (by simp)
  have hcd3 : ∀ cdv, EX2.CodeAt K (He.ga K "_law_asks_right") cdv → cdv = .ref c3 := fun cdv hc => EX2.code_of X G (He.glo_ok X G (d.fact 66 (f := .glo "_law_asks_right") rfl)) ht3 hc
  have TB4 : LamX.TabB base mg c4 T4 := TBs (c4, T4) (by simp)
  have hcd4 : ∀ cdv, EX2.CodeAt K (He.ga K "law") cdv → cdv = .ref c4 := fun cdv hc => EX2.code_of X G (He.glo_ok X G (d.fact 4 (f := .glo "law") rfl)) ht4 hc
  have hu1 : ∀ p ∈ [(T1, qOf "_law_loaders_right" s_law_loaders_right), (T2, qOf "_law_parts_right" s_law_parts_right), (T3, qOf "_law_asks_right" s_law_asks_right), (T4, qOf "law" slaw)], p.1 = T1 → p.2 = qOf "_law_loaders_right" s_law_loaders_right := by
    intro p hp e
    simp only [List.mem_cons, List.not_mem_nil, or_false] at hp
    rcases hp with rfl | rfl | rfl | rfl
    · rfl
    · exact absurd e.symm n12
    · exact absurd e.symm n13
    · exact absurd e.symm n14
  have hu2 : ∀ p ∈ [(T1, qOf "_law_loaders_right" s_law_loaders_right), (T2, qOf "_law_parts_right" s_law_parts_right), (T3, qOf "_law_asks_right" s_law_asks_right), (T4, qOf "law" slaw)], p.1 = T2 → p.2 = qOf "_law_parts_right" s_law_parts_right := by
    intro p hp e
    simp only [List.mem_cons, List.not_mem_nil, or_false] at hp
    rcases hp with rfl | rfl | rfl | rfl
    · exact absurd e n12
    · rfl
    · exact absurd e.symm n23
    · exact absurd e.symm n24
  have hu3 : ∀ p ∈ [(T1, qOf "_law_loaders_right" s_law_loaders_right), (T2, qOf "_law_parts_right" s_law_parts_right), (T3, qOf "_law_asks_right" s_law_asks_right), (T4, qOf "law" slaw)], p.1 = T3 → p.2 = qOf "_law_asks_right" s_law_asks_right := by
    intro p hp e
    simp only [List.mem_cons, List.not_mem_nil, or_false] at hp
    rcases hp with rfl | rfl | rfl | rfl
    · exact absurd e n13
    · exact absurd e n23
    · rfl
    · exact absurd e.symm n34
  have hu4 : ∀ p ∈ [(T1, qOf "_law_loaders_right" s_law_loaders_right), (T2, qOf "_law_parts_right" s_law_parts_right), (T3, qOf "_law_asks_right" s_law_asks_right), (T4, qOf "law" slaw)], p.1 = T4 → p.2 = qOf "law" slaw := by
    intro p hp e
    simp only [List.mem_cons, List.not_mem_nil, or_false] at hp
    rcases hp with rfl | rfl | rfl | rfl
    · exact absurd e n14
    · exact absurd e n24
    · exact absurd e n34
    · rfl
  have LW : LwF PP w K mg base [(T1, qOf "_law_loaders_right" s_law_loaders_right), (T2, qOf "_law_parts_right" s_law_parts_right), (T3, qOf "_law_asks_right" s_law_asks_right), (T4, qOf "law" slaw)] := ⟨⟨_, f20, He.glo_ok X G (d.fact 64 (f := .glo "_law_loaders_right") rfl), F20, ok_law_loaders_right F20 hcd1 TB1 (by simp) hu1 TKv NN sdv said⟩,
    ⟨_, f21, He.glo_ok X G (d.fact 65 (f := .glo "_law_parts_right") rfl), F21, ok_law_parts_right F21 hcd2 TB2 (by simp) hu2 TKv NN sdv said⟩,
    ⟨_, f22, He.glo_ok X G (d.fact 66 (f := .glo "_law_asks_right") rfl), F22, ok_law_asks_right F22 hcd3 TB3 (by simp) hu3 TKv NN sdv said⟩⟩
  exact oklaw F23 hcd4 TB4 (by simp) hu4 TKv NN sdv said LW
end K06
open PySem PySem.W PySem.Calls PyProof.Rows
theorem PySem.Challenge.cw_lateclasses_k06_errors_of_tables_holds : PySem.Challenge.rw_lateclasses_k06_errors_of_tables.Holds := by
  w_on; o_law
  refine HandSHeadRun.head_any (r := OpenLaw.row K06.RW) (q := view (OpenLaw.row K06.RW).prog [46, 47, 48, 49]) (H := K06.hk) (ob := K06.ob) (M := 16000) (loose := K06.loose) (d := HandSHeadRun.topDef (OpenLaw.row K06.RW).prog 49) (kwd := []) K06.ob_eq
    (by kernel_rfl) (fun s => by kernel_rfl) K06.run (by kernel_rfl) (by kernel_rfl) (by kernel_rfl) (by rfl) (by first | assumption | decide +kernel) (by decide +kernel) ⟨rfl, rfl, rfl, rfl, rfl, by decide +kernel⟩ ?hw ?hc
  case hw => w_witness2
  case hc =>
    refine EX2.walk_ofGTs (l := K06.RW) (n := 63) (k := 12) (x := "_law_script") (ys := K06.lams) rfl (by decide) (by kernel_rfl) ⟨rfl, by decide, by decide⟩ ?R ?F
    case R =>
      intro y hy
      simp only [K06.lams, List.mem_cons, List.not_mem_nil, or_false] at hy
      rcases hy with rfl | rfl | rfl | rfl
      · exact ⟨HandSHeadRun.topDef (OpenLaw.row K06.RW).prog 46, by kernel_rfl⟩
      · exact ⟨HandSHeadRun.topDef (OpenLaw.row K06.RW).prog 47, by kernel_rfl⟩
      · exact ⟨HandSHeadRun.topDef (OpenLaw.row K06.RW).prog 48, by kernel_rfl⟩
      · exact ⟨HandSHeadRun.topDef (OpenLaw.row K06.RW).prog 49, by kernel_rfl⟩
    case F =>
      intro w mg fa h Y G hmg0
      obtain ⟨K, KX, c⟩ := Y
      have hmg : mg ("law" : PySem.Str) = some (.ref fa) := by
        have e : (HandSHeadRun.topDef (OpenLaw.row K06.RW).prog 49).name = ("law" : PySem.Str) := by kernel_rfl
        rw [← e]
        exact hmg0
      obtain ⟨fd, cs, Tb, hTb, hcs, hnk, hb, hF⟩ := K06.facts (w := w) KX G hmg c
      refine ⟨K, fd, K06.spLaw K Tb, cs, KX, hcs, hnk, hb, fun H a ns hl hH hS => ⟨a, ns, rfl, hS, Nat.le_trans hl (by decide), fun p hp => ?_, fun _ => rfl⟩, hF⟩
      obtain ⟨q, hq, e⟩ := hTb p hp
      rw [show p.1 = q.2 from e]
      exact LamX.TabS.nil (hH q hq)
