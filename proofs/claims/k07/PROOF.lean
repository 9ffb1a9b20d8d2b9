import PyProof.Rows.All
import HandS.Base
import HandS.Call
import HandS.Comp
import HandS.Defaults
import HandS.EndTab
import HandS.Evl
import HandS.Exc
import HandS.ExcField
import HandS.ExcInit
import HandS.ExcIs
import HandS.ExcOwn
import HandS.ExcSuper
import HandS.Finally
import HandS.ForMost
import HandS.Head0
import HandS.Head1
import HandS.Head2
import HandS.Head3
import HandS.HeadEnd
import HandS.HeadHook1
import HandS.HeadHook2
import HandS.HeadHook3
import HandS.HeadHook4
import HandS.IsInst
import HandS.Iter
import HandS.Lambda
import HandS.List
import HandS.More
import HandS.Nested
import HandS.NoneIn
import HandS.OwnEq
import HandS.Property
import HandS.Set
import HandS.SetBool
import HandS.Strs
import HandS.Text
import HandS.TryMany
import HandS.TupAny
import HandS.TupSets
import HandS.Walk
import HandS.Words
import HandS.WordsExc
import HandS.Zip
import HandS.Zip0
import KE.KDictDisplayH
import KE.KExcInit
import KE.KExcLine
import KE.KFromBytes
import KE.KStateDown
import KE.KSuper
import OpenK.AllK
import PyProof.AutoSeq1
import PyProof.CallFns
import PyProof.DictKinds
import PyProof.Draws
import PyProof.EqAt
import PyProof.EqKinds
import PyProof.FactsAll.set_2
import PyProof.NeKinds
import PyProof.P3Statements
import PyProof.ReprLen
import PyProof.ReprRoads
import PyProof.TupleCall
import PyProof.ZipIter
import Wide.All
import Wide.FinOn
import PySem.Challenge.RW_lateclasses_k07_whole_least_tables
set_option Elab.async false
set_option linter.all false
set_option maxRecDepth 100000
set_option maxHeartbeats 2000000
/-! own exceptions over an own class over Exception, whose __init__ says super().__init__(text) and stores its arguments -/
namespace EX2
open PySem PySem.Spec PyProof.Rows L2
abbrev bmE : List Value := [.type "Exception", .type "BaseException", .type "object"]
/-- what the written part says of such a class -/
structure ExK (K : PySem.W.Frag) (C : Addr) : Prop where
  init : PySem.W.excInitIn K C bmE "Exception.__new__" = true
  over : PySem.W.excOver K C bmE = true
  hdC : PySem.W.hasDictIn K C = true
  sa : PySem.W.findIn K (.ref C) "__setattr__" = some (some (.builtin "object.__setattr__"))
  exC : PySem.W.subIn K (.ref C) (.type "BaseException") = some true
  exE : PySem.W.subIn K (.ref C) (.type "Exception") = some true
  tyC : PySem.W.typeIn K (.ref C) = some (.type "type")
  kC : PySem.W.keepIn K (.ref C) = true
section
open PySem.W PySem.Calls
open Builtin Builtin.ObjectAttr
variable {prog : Program} {w : World} {A : Around} {E : Value → Shared → Prop} {R : Result → Shared → Prop} {hp : Heap} {g : Array GenState} {d : Drawn} {t : Nat} {os : OsState}
theorem taker_none {K : PySem.W.Frag} {C : Addr} {name : Str} (ha : PySem.W.findIn K (.ref C) name = some none) : PySem.W.takerIn K C name = some none := by
  unfold PySem.W.takerIn
  rw [ha]
  rfl
theorem osa_new {K : PySem.W.Frag} {name : Str} {tk : Tok} {v : Value} {x C : Addr} {fv : Array Value} (T : ExK K C)
    (X : K.In hp) (hx : hp.get? x = some { cls := .ref C, data := .fields fv }) (ha : PySem.W.findIn K (.ref C) name = some none)
    (hq : ∀ h' tk' dx, (∀ b o, b ≠ x → hp.get? b = some o → h'.get? b = some o) → hp.objs.size ≤ dx → dx ≠ x → h'.get? x = some { cls := .ref C, dict := some dx, data := .fields fv } →
      h'.Ns1 dx (fun y => if y = name then some v else none) → R (.ok (.ret .none)) ⟨h', g, d, tk', os⟩) :
    codeAny (model prog w) A (.call (.builtin "object.__setattr__") ⟨[.ref x, .str name tk, v], []⟩) R ⟨hp, g, d, t, os⟩ := by
  have I : PySem.W.InstAt hp x { cls := .ref C, data := .fields fv } C none := ⟨hx, rfl, rfl, trivial⟩
  have hxs : x ≠ hp.objs.size := Nat.ne_of_lt (Heap.lt_size hx)
  refine PySem.W.osa_openX F.store_Exception (s := ⟨hp, g, d, t, os⟩) X I T.over (taker_none ha) fun b => ?_
  obtain ⟨cd, hcd, hh⟩ := PySem.W.any_some T.hdC
  have hcls : PySem.W.Looks (model prog w) hp (classData C) cd := PySem.W.looks_clsIn X hcd
  obtain ⟨nm, bs, mro, ns, qn, hd, sn, sb, ab, col, del⟩ := cd
  dsimp only at hh
  subst hh
  show wpAny _ _ (storeInOwnDict (.ref x) (.ref C) (.str name tk) name v b) _ _ _
  unfold storeInOwnDict ownDictForStores
  repeat (first | with_reducible refine HandSPX.store_in_new ?_ ?_ | with_reducible refine wpAny_loadPart_at hx ?_ | with_reducible refine hcls.at ?_ | wp_step)
  · exact ⟨_, #[], _, (Heap.get?_update_ne _ _ _ _ hxs.symm).trans (Heap.get?_push_at rfl rfl), rfl, fun e he => absurd he (by simp), fun _ => rfl⟩
  · intro h' tk' hn' hs
    have hx₁ : (hp.push { cls := .type "dict", data := .dict #[] }).get? x = some { cls := .ref C, data := .fields fv } := Heap.get?_push_of_some _ hx
    refine hq h' tk' hp.objs.size (fun b o hb ho => ?_) (Nat.le_refl _) hxs.symm ?_ hn'
    · exact (hs.2 b (Nat.ne_of_lt (Heap.lt_size ho))).trans ((Heap.get?_update_ne _ _ _ _ hb).trans (Heap.get?_push_of_some _ ho))
    · exact (hs.2 x hxs).trans (Heap.get?_update_self _ hx₁ rfl)
theorem osa_old {K : PySem.W.Frag} {name : Str} {tk : Tok} {v : Value} {x C dx : Addr} {fv : Array Value} {m0 : Str → Option Value} {nl : List Str} (T : ExK K C)
    (X : K.In hp) (hx : hp.get? x = some { cls := .ref C, dict := some dx, data := .fields fv }) (hns : hp.Ns1 dx m0) (hw : Within m0 nl) (hz : nl.length ≤ 1000)
    (ha : PySem.W.findIn K (.ref C) name = some none)
    (hq : ∀ h' tk', (∀ b o, b ≠ dx → hp.get? b = some o → h'.get? b = some o) → h'.Ns1 dx (fun y => if y = name then some v else m0 y) → R (.ok (.ret .none)) ⟨h', g, d, tk', os⟩) :
    codeAny (model prog w) A (.call (.builtin "object.__setattr__") ⟨[.ref x, .str name tk, v], []⟩) R ⟨hp, g, d, t, os⟩ := by
  obtain ⟨oD, esD, epD, hoD, hdD, _⟩ := hns.count hw
  have I : PySem.W.InstAt hp x { cls := .ref C, dict := some dx, data := .fields fv } C (some oD) := ⟨hx, rfl, rfl, hoD⟩
  refine PySem.W.osa_openX F.store_Exception (s := ⟨hp, g, d, t, os⟩) X I T.over (taker_none ha) fun b => ?_
  obtain ⟨cd, hcd, hh⟩ := PySem.W.any_some T.hdC
  have hcls : PySem.W.Looks (model prog w) hp (classData C) cd := PySem.W.looks_clsIn X hcd
  obtain ⟨nm, bs, mro, ns, qn, hd, sn, sb, ab, col, del⟩ := cd
  dsimp only at hh
  subst hh
  show wpAny _ _ (storeInOwnDict (.ref x) (.ref C) (.str name tk) name v b) _ _ _
  unfold storeInOwnDict ownDictForStores
  repeat (first | with_reducible refine ESX.store_in_old hns hw hz ?_ | with_reducible refine wpAny_loadPart_at hx ?_ | with_reducible refine hcls.at ?_ | wp_step)
  intro h' tk' hn' hs
  exact hq h' tk' (fun b o hb ho => (hs.2 b hb).trans ho) hn'
end
end EX2
set_option Elab.async false
set_option linter.all false
set_option maxRecDepth 100000
set_option maxHeartbeats 2000000
namespace EX2
open PySem PySem.Spec PyProof.Rows L2
section
variable {X : Cx} {pins : List (Addr × Obj)} {σ : L2.St} {H : Hp} {s : Shared} {a C dx : Addr} {f : Str} {y : V} {u : Value} {fs : List (Str × V)} {Q : Unit → Shared → Prop} {E : Value → Shared → Prop} {A : Around}
/-- self.f = y, the first one -/
theorem ost_new (T : ExK X.K C) (I : Inv X pins σ H s) (e : H a = some (exo a C none)) (hno : PySem.W.findIn X.K (.ref C) f = some none) (ry : RelV y u)
    (h : ∀ dx s', H dx = none → dx ≠ a → Inv X pins σ (upd (upd H dx (exd dx [(f, y)])) a (exo a C (some dx))) s' → Q () s') : wpAny (model X.prog X.w) A (setAttr (.ref a) f u) Q E s := by
  obtain ⟨t1, ho⟩ := exo_at I.hok e
  obtain ⟨hp, g, d, t, os⟩ := s
  refine PySem.W.set_plain I.kIn (ox := { cls := .ref C, dict := none, data := .fields #[.ref t1, .none, .none, .none, .bool false, .none] }) (od := none) ⟨ho, rfl, rfl, trivial⟩ T.sa ?_
  refine EX2.osa_new T I.kIn ho hno (fun h' tk' dx k dn dne hx hn => ?_)
  have hnd : H dx = none := I.hok.fresh dn
  have nd : ∀ {b : Addr} {o : Obj}, hp.get? b = some o → b ≠ dx := fun {b o} q => Nat.ne_of_lt (Nat.lt_of_lt_of_le (Heap.lt_size q) dn)
  have na : ∀ {b : Addr}, H b = none → b ≠ a := fun {b} n z => by
    rw [z, e] at n
    cases n
  have Un1 : Un X.fs [] H (upd (upd H dx (exd dx [(f, y)])) a (exo a C (some dx))) hp h' := {
    keep := fun b o q n _ _ => k b o (na n) q
    slot := fun b o q n _ _ => ⟨o.slots, k b o (na n) q⟩
    free := fun b o q n _ => by rw [upd_ne (na n), upd_ne (nd q)]; exact n
    there := fun b o q _ => by
      by_cases hb : b = a
      · exact ⟨_, by rw [hb]; exact hx⟩
      · exact ⟨o, k b o hb q⟩
    tups := fun b xs q => by rw [upd_ne (at_ne e q exo_tup), upd_ne (ne_of_none q hnd)]; exact q
    frzs := fun b o v q => by rw [upd_ne (at_ne e q exo_frz), upd_ne (ne_of_none q hnd)]; exact q
    tbls := fun b ps q => ⟨#[], by rw [upd_ne (at_ne e q exo_tbl), upd_ne (ne_of_none q hnd), q]; simp⟩ }
  refine h dx _ hnd dne (I.un (t' := tk') Un1 fun b o q => ?_)
  by_cases hb : b = a
  · subst hb
    rw [upd_same] at q
    cases q
    exact exo_ok hx
  · rw [upd_ne hb] at q
    by_cases hd : b = dx
    · subst hd
      rw [upd_same] at q
      cases q
      exact exd_ok hn (relO_put (fs := []) ry fun g => True.intro)
    · rw [upd_ne hd] at q
      exact (I.hok b o q).stay (fun c v hc z => k c v (by
          rcases hc with hc | hc
          · rw [hc]
            exact hb
          · exact at_ne e hc exo_own) z)
        (fun c hc => by rw [upd_ne (at_ne e hc exo_own), upd_ne (ne_of_none hc hnd)]; exact hc) (fun c xs hc => by rw [upd_ne (at_ne e hc exo_tup), upd_ne (ne_of_none hc hnd)]; exact hc)
/-- self.f = y, a further one -/
theorem ost_old (T : ExK X.K C) (I : Inv X pins σ H s) (e : H a = some (exo a C (some dx))) (ed : H dx = some (exd dx fs)) (hl : fs.length ≤ 900) (hno : PySem.W.findIn X.K (.ref C) f = some none) (ry : RelV y u)
    (h : ∀ s', Inv X pins σ (upd H dx (exd dx ((f, y) :: fs))) s' → Q () s') : wpAny (model X.prog X.w) A (setAttr (.ref a) f u) Q E s := by
  obtain ⟨t1, ho⟩ := exo_at I.hok e
  obtain ⟨mA, hns, rel⟩ := exd_at I.hok ed
  have hw := within_of rel
  obtain ⟨hp, g, d, t, os⟩ := s
  obtain ⟨oD, _, _, hoD, _, _⟩ := hns.count hw
  refine PySem.W.set_plain I.kIn (ox := { cls := .ref C, dict := some dx, data := .fields #[.ref t1, .none, .none, .none, .bool false, .none] }) (od := some oD) ⟨ho, rfl, rfl, hoD⟩ T.sa ?_
  refine EX2.osa_old T I.kIn ho hns hw (by rw [List.length_map]; omega) hno (fun h' tk' k hn => ?_)
  have hd : ∃ o, h'.get? dx = some o := by
    obtain ⟨o, _, _, e', _⟩ := hn
    exact ⟨o, e'⟩
  exact h _ (I.write (t' := tk') (x := dx) (e := dx) (o := exd dx ((f, y) :: fs)) (by rw [ed]; exact True.intro) (.inl rfl) k hd (exd_ok hn (relO_put ry rel)))
end
/-- o.f = v, o an exception that is being made -/
def gOst (K : PySem.W.Frag) (f : Str) (to : TE) : TG := fun y σ H Q => to σ H fun x H2 => ∃ a C : Addr, x = .ref a ∧ ExK K C ∧ PySem.W.findIn K (.ref C) f = some none ∧
  ((H2 a = some (exo a C none) ∧ ∀ dx, H2 dx = none → dx ≠ a → Q σ (upd (upd H2 dx (exd dx [(f, y)])) a (exo a C (some dx)))) ∨
    ∃ (dx : Addr) (fs : List (Str × V)), H2 a = some (exo a C (some dx)) ∧ H2 dx = some (exd dx fs) ∧ fs.length ≤ 900 ∧ Q σ (upd H2 dx (exd dx ((f, y) :: fs))))
theorem pg_ost {X : Cx} {o : Expr} {to : TE} {f : Str} {p : Pos} (ho : PE X o to) : PG X (.Attribute o f p) (gOst X.K f to) := by
  refine ⟨fun pins s σ H v u Q I r h => ?_⟩
  refine PySem.W.kas_attr (thn (ho.run pins s σ H _ I h) fun ov s2 ⟨x, H2, I2, r2, a, C, ex, T, hno, q⟩ => ?_)
  subst ex
  obtain rfl : ov = Value.ref a := r2
  rcases q with ⟨ea, q⟩ | ⟨dx, fs, ea, ed, hl, q⟩
  · exact ost_new T I2 ea hno r fun dx s' n ne J => ⟨σ, _, J, q dx n ne⟩
  · exact ost_old T I2 ea ed hl hno r fun s' J => ⟨σ, _, J, q⟩
/-! ### the def with its cell -/
/-- such an __init__ as it stands behind the top -/
structure SuF (P : Program) (K : PySem.W.Frag) (qual : Str) (st : Stmt) (C f : Addr) (fd : FuncData) : Prop where
  ex : ∃ (oc : Value) (od : Option Addr) (osl : Array (Option Value)) (doc pm ctv : Value) (cc c : Addr) (ocl : Obj) (occ : Obj) (vs : Array Value) (file : Str) (tf : Tok),
    fd = (NdefX.NF.mk "__init__" qual (defArgs st) (defBody st) (defScope st) [("__class__", cc)] c).fd doc pm ctv ∧ K.lookup f = some ⟨oc, od, .func fd, osl⟩ ∧ PySem.W.codeIn K (.ref c) qual = true ∧
      K.lookup cc = some ocl ∧ ocl.data = .cell (some (.ref C)) ∧ K.lookup c = some occ ∧ occ.data = .fields vs ∧ vs[2]? = some (.str file tf) ∧ ((P.main.file : Str) == file) = true
  at_ : PySem.W.findIn K (.ref C) "__init__" = some (some (.ref f))
  ty : PySem.W.typeIn K (.ref f) = some (.type "function")
/-- what a made exception holds: fs its fields -/
def spX (C : Addr) (n : Nat) (fs : List V → List (Str × V)) : Sp := fun vs H Q _ => ∃ a xs, vs = .ref a :: xs ∧ xs.length = n ∧ H a = some (exo a C none) ∧
  ∀ (H' : Hp) (dx : Addr), (∀ b o, b ≠ a → H b = some o → H' b = some o) → H dx = none → dx ≠ a → H' a = some (exo a C (some dx)) → H' dx = some (exd dx (fs xs)) → Q .non H'
theorem two_ok : 2 ≤ sizeLine := by rw [sizeLine_eq]; decide
theorem type_super : bootBuiltins "super" = some (.type "super") := by kernel_rfl
section
variable {P : Program} {w : World} {K : PySem.W.Frag} {mg : Str → Option Value} {base : Heap} {f C : Addr} {fd : FuncData} {k : Nat}
theorem call_form {o : Expr} {name : Str} {apos pos : Pos} {e : Const} {j : Nat} {p3 : Pos} {env : Env} (hln : (apos.endLine == pos.line) = true) : eval (.Call (.Attribute o name apos) [.Constant e j p3] [] pos) env = (do
      let ov ← attributeBase o name env (eval o env)
      standAt apos.atName
      let (f, first) ← holding [ov] (getMethod ov name (do return (← importBound o env).getD true))
      callWith pos f first (backTo pos (starEach [.Constant e j p3] env)) []) := by
  have e1 : methodCallPos true o env apos pos = pure pos := by
    unfold methodCallPos
    rw [hln]
    rfl
  show (do
    let ov ← attributeBase o name env (eval o env)
    standAt apos.atName
    let (f, first) ← holding [ov] (getMethod ov name (do return (← importBound o env).getD true))
    let callPos ← methodCallPos true o env apos pos
    callWith callPos f first (backTo pos (starEach [.Constant e j p3] env)) []) = _
  rw [e1]
  rfl
theorem ok_xinit {qual : Str} {st : Stmt} {ps : List Str} {N : List Str} {msg : Str} {j : Nat} {p0 p1 p2 p3 p4 p5 : Pos} {rest : List Stmt} {n : Nat} {fs : List V → List (Str × V)} (F : SuF P K qual st C f fd) (T : ExK K C)
    (hb : defBody st = .Expr (.Call (.Attribute (.Call (.Name "super" p0) [] [] p1) "__init__" p2) [.Constant (.str msg) j p3] [] p4) p5 :: rest)
    (S : NdefX.NScope N (("self" : Str) :: ps) ["__class__"] (defScope st)) (hps : ps.length = n) (hks : (defScope st).names.lookup ("super" : Str) = some .globalImplicit)
    (har : ((defArgs st).posonlyargs ++ (defArgs st).args).head?.map (·.arg) = some (("self" : Str)))
    (hsu : PySem.W.ks_superIn K C C "__init__" = some (some (.builtin "Exception.__init__"))) (hmC : PySem.W.mroIn K C (.ref C) = some true) (hop : PySem.W.nsIn K cStatics "thirdparty.any" = some none)
    (hln : (p2.endLine == p4.line) = true) (gS : mg "super" = none) (htop : (P.main.scope.names.lookup ("super" : Str)).isSome = false)
    (hrest : ∀ (A : Around) (outer : List Env) (s : Shared) (H : Hp) (cc c : Addr) (a : Addr) (xs : List V) (Q : VK) (E : XK), xs.length = n → H a = some (exo a C none) →
      (∀ (H' : Hp) (dx : Addr), (∀ b o, b ≠ a → H b = some o → H' b = some o) → H dx = none → dx ≠ a → H' a = some (exo a C (some dx)) → H' dx = some (exd dx (fs xs)) → Q .non H') →
      ∃ t, PSs (NdefX.ncx CX0 P w K mg base N (NdefX.NF.mk "__init__" qual (defArgs st) (defBody st) (defScope st) [("__class__", cc)] c) f A outer s H E).nox rest t ∧ t { nx := fun _ H' => Q .non H', rt := Q } (NdefX.startF N (.ref a :: xs) [some (.ref C)]) H) :
    FnOk P w K mg base CX0 (k + 1) f fd (("self" : Str) :: ps) (spX C n fs) := by
  refine ⟨fun vs H Q E h => ?_, fun A outer s H args us vs Q E hr e0 hbi r hsp => ?_⟩
  · obtain ⟨a, xs, rfl, hl, _⟩ := h
    simp [hl, hps]
  · obtain ⟨oc, od, osl, doc, pm, ctv, cc, c, ocl, occ, fvs, file, tf, rfl, lk, hcd, lcc, dcc, lc, dc, hvs, hfile⟩ := F.ex
    have KX : K.In s.heap := e0.mod.kin.keeps fun b o e => (e0.bs b o e).1
    have lim : s.heap.NoLimit := e0.mod.nolimit.keeps fun b o e => (e0.bs b o e).1
    obtain ⟨a, xs, rfl, hl, ea, hQ⟩ := hsp
    have hvl : (V.ref a :: xs).length = (("self" : Str) :: ps).length := by simp [hl, hps]
    have gbase : ∀ {b : Addr} {o : Obj}, K.lookup b = some o → base.get? b = some o := fun e => e0.mod.kin _ _ e
    have hloc : ∀ x ∈ (("self" : Str) :: ps).zip us, (defScope st).names.lookup x.1 = some .local := fun ⟨n, v⟩ hy => S.par n (List.of_mem_zip hy).1
    refine ks_codeAny_call_defAt (binds := (("self" : Str) :: ps).zip us) hr.depth (KX _ _ lk) rfl lim (PySem.W.codeRec_of KX hcd) rfl hbi S.nocell hloc (fun h₁ hns kp => ?_) S.co S.gen S.kind
    have CA : NdefX.CellsAt [("__class__", cc)] ["__class__"] [some (.ref C)] s.heap H := by
      have hc0 : s.heap.get? cc = some ocl ∧ H cc = none := e0.bs _ _ (gbase lcc)
      refine ⟨rfl, fun y c' e => ?_, fun x y c' e1 e2 => ?_, fun i y hy => ?_⟩
      · have : c' = cc := by
          simp only [List.lookup] at e
          split at e
          · exact (Option.some.inj e).symm
          · cases e
        subst this
        exact ⟨hc0.2, _, ocl, hc0.1, dcc⟩
      · have one : ∀ z, List.lookup z [(("__class__" : Str), cc)] = some c' → z = "__class__" := fun z e => by
          simp only [List.lookup] at e
          split at e
          · rename_i q
            exact beq_iff_eq.mp q
          · cases e
        rw [one x e1, one y e2]
      · have : y = "__class__" := by
          cases i with
          | zero => exact (Option.some.inj hy).symm
          | succ i => simp at hy
        subst this
        refine ⟨cc, by simp [List.lookup], fun v hv => ?_⟩
        have : v = .ref C := by
          cases i with
          | zero => exact (Option.some.inj (Option.some.inj hv)).symm
          | succ i => simp at hv
        subst this
        exact ⟨_, rfl, ocl, hc0.1, dcc⟩
    have I : Inv (NdefX.ncx CX0 P w K mg base N (NdefX.NF.mk "__init__" qual (defArgs st) (defBody st) (defScope st) [("__class__", cc)] c) f A outer s H E) [] (NdefX.startF N (.ref a :: xs) [some (.ref C)]) H { s with heap := h₁, toks := s.toks + ((("self" : Str) :: ps).zip us).length } :=
      NdefX.inv_startN S hr.hd e0 hvl r CA hns kp
    have KX1 : K.In h₁ := KX.keeps kp
    obtain ⟨nm, Nn, qd, bs, bm, hdct, sn, sub, ab, col, dd, k0, k1, k2', k3', k5, hC1, hT⟩ := PySem.W.excInit_of KX1 T.init
    obtain ⟨t0, ho⟩ := exo_at I.hok ea
    obtain ⟨cdC, hclC, _⟩ := PySem.W.any_some T.hdC
    have hxC : a ≠ C := fun z => by
      rw [z] at ho
      rw [hC1] at ho
      cases ho
    obtain ⟨ar, har1, har2⟩ := Option.map_eq_some_iff.mp har
    have hself : ((("self" : Str) :: ps).zip us).reverse.lookup (("self" : Str)) = some (.ref a) := by
      cases r with
      | cons r1 r2 =>
        obtain rfl : _ = Value.ref a := r1
        exact NdefX.zip_look (i := 0) (by
          have q := S.nd.sublist (List.take_sublist ((("self" : Str) :: ps).length + [("__class__" : Str)].length) N)
          rw [S.pre] at q
          exact (List.nodup_append.mp q).1) rfl rfl
    obtain ⟨mb, hmb1, hmb2⟩ := e0.mod.blt
    have bk1 : ∀ b o, base.get? b = some o → h₁.get? b = some o := fun b o e => kp _ _ (e0.bs b o e).1
    show PySem.wpAt (model P w) _ (.func (defBody st) _) (execs (defBody st) _) _ _ _
    rw [hb]
    refine ks_wpAt_execs_cons (ks_wpAt_Expr_any (ks_wpAt_MethodCall (pl := do return (← importBound (.Call (.Name (("super" : Str)) p0) [] [] p1) (callEnv ((NdefX.NF.mk "__init__" qual (defArgs st) (defBody st) (defScope st) [("__class__", cc)] c).fd doc pm ctv) s.heap.objs.size f)).getD true) ?_ (call_form hln)) I.quiet)
    refine ks_wpAt_super_base (f := f) (cc := c) (ar := ar) (of := _) (oc := occ) (vs := fvs) (file := file) (tf := tf) hks (S.frk _ (by simp)) (by decide) rfl (kp _ _ (KX _ _ lk)) rfl har1 rfl (kp _ _ (KX _ _ lc)) dc hvs hfile htop ?_
    refine PySem.W.ks_loadName_global S.kind hks (Calls.loadGlobal_builtin (mg := mg) (e0.mod.glob.keeps bk1) gS (hmb1.keeps bk1) ((hmb2 _ (by decide)).trans type_super) ⟨rfl, ?_⟩)
    refine wpAny_loadName_free S.kind (S.frk _ (by simp)) rfl ⟨_, kp _ _ (KX _ _ lcc), dcc⟩ ?_
    refine wpAny_loadName_local S.kind (by rw [har2]; exact S.par _ (by simp)) hns (by rw [har2]; exact hself) ?_
    refine ks_wpAny_isType_cls hC1 rfl ⟨rfl, ?_⟩
    have IA : PySem.W.InstAt h₁ a { cls := .ref C, dict := none, data := .fields #[.ref t0, .none, .none, .none, .bool false, .none] } C none := ⟨ho, rfl, rfl, trivial⟩
    have subC : PySem.W.Looks (model P w) h₁ (isSubtype (.ref C) (.ref C)) true := PySem.W.looks_mroIn KX1 hmC
    refine ks_wpAny_call_super hC1 rfl ho rfl (fun c e => by cases e) subC (fun h2 e2 k2 => ?_)
    have I2 := I.kept (t' := s.toks + (((("self" : Str) :: ps)).zip us).length) k2
    have KX2 : K.In h2 := KX1.keeps k2
    have IA2 : PySem.W.InstAt h2 a { cls := .ref C, dict := none, data := .fields #[.ref t0, .none, .none, .none, .bool false, .none] } C none := ⟨k2 _ _ ho, rfl, rfl, trivial⟩
    have hin : PySem.W.Looks (model P w) h2 (isInstance (.ref a) (.type "Exception")) true := IA2.type.andThen (PySem.W.looks_subIn KX2 T.exE)
    have hmro : PySem.W.Looks (model P w) h2 (mroOf (.ref C)) cdC.mro := fun A Q E s k q => wpAny_bind ((PySem.W.looks_clsIn KX2 hclC) A _ E s k (wpAny_pure q))
    have hf2 : PySem.W.alongIn K "__init__" ((cdC.mro.dropWhile (· != .ref C)).drop 1) = some (some (.builtin "Exception.__init__")) := by
      have hm := hsu
      unfold PySem.W.ks_superIn at hm
      rw [hclC] at hm
      exact hm
    refine ESX.getMethod_super e2 (PySem.W.looks_opaque KX2 hop) hmro rfl KX2 hf2 hxC (by decide) hin ?_
    have hu : (h2.push (ESX.bw a)).get? h2.objs.size = some (ESX.bw a) := Heap.get?_push_size _ rfl
    have k3 : ∀ b o, h2.get? b = some o → (h2.push (ESX.bw a)).get? b = some o := fun b o e => Heap.get?_push_of_some _ e
    have I3 := I2.kept (h' := h2.push (ESX.bw a)) (t' := s.toks + (((("self" : Str) :: ps)).zip us).length + 1) k3
    refine ESX.callWith_bound (x := a) ?_
    show wpAny _ _ (spliced ((false, eval (.Constant (.str msg) j p3) _) :: backTo p4 (starEach [] _))) _ _ _
    refine Calls.spliced_cons (Calls.Constant_str ?_)
    refine Calls.spliced_nil ⟨hu, ?_⟩
    have hC3 : (h2.push (ESX.bw a)).get? C = some (excClassObj nm qd C Nn bs bm hdct sn sub ab col dd k0 k1 k2' k3' k5 "Exception.__new__") := k3 _ _ (k2 _ _ hC1)
    refine ESX.call_bw hC3 (k3 _ _ (k2 _ _ ho)) hu (by show 1 ≤ sizeLine; rw [sizeLine_eq]; omega) fun h4 t1 k4 hx4 => ?_
    have J := I3.write (h' := h4) (x := a) (e := a) (o := exo a C none) (t' := s.toks + (((("self" : Str) :: ps)).zip us).length + 1 + 1) (by rw [ea]; exact True.intro) (.inl rfl) k4 ⟨_, hx4⟩ (exo_ok hx4)
    have eu : upd H a (exo a C none) = H := by
      funext b
      by_cases hb : b = a
      · rw [hb, upd_same, ea]
      · rw [upd_ne hb]
    rw [eu] at J
    obtain ⟨tt, ht, hq⟩ := hrest A outer s H cc c a xs Q E hl ea hQ
    refine wpAt_of_wpAny (wpAny_mono (ht.nox.run [] _ _ H _ J hq) (fun fl s' hs => ?_) fun e s' hs => hs)
    have fin : ∀ {σ' : L2.St} {H' : Hp} {v : V} {u : Value}, Inv (NdefX.ncx CX0 P w K mg base N (NdefX.NF.mk "__init__" qual (defArgs st) (defBody st) (defScope st) [("__class__", cc)] c) f A outer s H E) [] σ' H' s' → L2.RelV v u → Q v H' → CE outer P w H s Q u s' :=
      fun {σ' H' v u} J rv q => ⟨v, H', J.os, J.bare, J.base, J.hok, rv, q⟩
    cases fl with
    | ret u =>
      obtain ⟨v, σ', H', J, rv, q⟩ := hs
      exact fin J rv q
    | next =>
      obtain ⟨σ', H', J, q⟩ := hs
      exact fin (v := V.non) (u := Value.none) J rfl q
    | brk =>
      obtain ⟨_, _, _, q⟩ := hs
      exact False.elim q
    | cont =>
      obtain ⟨_, _, _, q⟩ := hs
      exact False.elim q
theorem no_swap {env : Env} (hk : env.scope.kind = .function) {o1 o2 : Expr} {a1 a2 : Str} {q1 q2 q3 : Pos} {n1 : Nat} {v : Expr} : swappedStores [.Tuple [.Attribute o1 a1 q1, .Attribute o2 a2 q2] n1 q3] v env = pure none := by
  have e : env.blockKind = .function := by
    unfold Env.blockKind
    rw [hk]
    rfl
  unfold swappedStores
  cases v <;> first | rfl | skip
  rename_i vs _ _
  simp only [e]
  split
  · rfl
  · split
    · rfl
    · rename_i h
      split
      · rfl
      · rename_i h2
        exact absurd (by rfl) h2
/-- self.fl = g -/
theorem ok_x1 {qual : Str} {st : Stmt} {msg g fl : Str} {j : Nat} {p0 p1 p2 p3 p4 p5 q1 q2 q3 q4 : Pos} (F : SuF P K qual st C f fd) (T : ExK K C) (hno : PySem.W.findIn K (.ref C) fl = some none)
    (hb : defBody st = .Expr (.Call (.Attribute (.Call (.Name "super" p0) [] [] p1) "__init__" p2) [.Constant (.str msg) j p3] [] p4) p5 :: [.Assign [.Attribute (.Name "self" q1) fl q2] (.Name g q3) q4])
    (S : NdefX.NScope ["self", g, "__class__"] [(("self" : Str)), g] ["__class__"] (defScope st)) (hks : (defScope st).names.lookup ("super" : Str) = some .globalImplicit)
    (har : ((defArgs st).posonlyargs ++ (defArgs st).args).head?.map (·.arg) = some (("self" : Str)))
    (hsu : PySem.W.ks_superIn K C C "__init__" = some (some (.builtin "Exception.__init__"))) (hmC : PySem.W.mroIn K C (.ref C) = some true) (hop : PySem.W.nsIn K cStatics "thirdparty.any" = some none)
    (hln : (p2.endLine == p4.line) = true) (gS : mg "super" = none) (htop : (P.main.scope.names.lookup ("super" : Str)).isSome = false) (hd : (g == ("__debug__" : Str)) = false) (hcd : (g == ("__classdict__" : Str)) = false) :
    FnOk P w K mg base CX0 (k + 1) f fd [(("self" : Str)), g] (spX C 1 fun xs => [(fl, xs.headD .non)]) := by
  refine ok_xinit F T hb S rfl hks har hsu hmC hop hln gS htop fun A outer s H cc c a xs Q E hl ea hQ => ?_
  match xs, hl with
  | [x], _ =>
    refine ⟨_, pss_one (ps_asg (pe_var (i := 1) rfl (.inl (S.par g (by simp))) hd hcd) (pg_ost (pe_var (i := 0) rfl (.inl (S.par _ (by simp))) (by decide) (by decide)))), ?_⟩
    refine ⟨x, rfl, .ref a, rfl, a, C, rfl, T, hno, .inl ⟨ea, fun dx hd hne => ?_⟩⟩
    refine hQ _ dx (fun b o hb e => ?_) hd hne upd_same ?_
    · rw [upd_ne hb, upd_ne (ne_of_none e hd)]
      exact e
    · rw [upd_ne hne, upd_same]
      rfl
/-- self.f1, self.f2 = g1, g2 -/
theorem ok_x2 {qual : Str} {st : Stmt} {msg g1 g2 f1 f2 : Str} {j n1 n2 : Nat} {p0 p1 p2 p3 p4 p5 q1 q2 q3 q4 q5 q6 q7 q8 q9 : Pos} (F : SuF P K qual st C f fd) (T : ExK K C) (hno1 : PySem.W.findIn K (.ref C) f1 = some none) (hno2 : PySem.W.findIn K (.ref C) f2 = some none)
    (hb : defBody st = .Expr (.Call (.Attribute (.Call (.Name "super" p0) [] [] p1) "__init__" p2) [.Constant (.str msg) j p3] [] p4) p5 :: [.Assign [.Tuple [.Attribute (.Name "self" q1) f1 q2, .Attribute (.Name "self" q3) f2 q4] n1 q5] (.Tuple [.Name g1 q6, .Name g2 q7] n2 q8) q9])
    (S : NdefX.NScope ["self", g1, g2, "__class__"] [(("self" : Str)), g1, g2] ["__class__"] (defScope st)) (hks : (defScope st).names.lookup ("super" : Str) = some .globalImplicit)
    (har : ((defArgs st).posonlyargs ++ (defArgs st).args).head?.map (·.arg) = some (("self" : Str)))
    (hsu : PySem.W.ks_superIn K C C "__init__" = some (some (.builtin "Exception.__init__"))) (hmC : PySem.W.mroIn K C (.ref C) = some true) (hop : PySem.W.nsIn K cStatics "thirdparty.any" = some none)
    (hln : (p2.endLine == p4.line) = true) (gS : mg "super" = none) (htop : (P.main.scope.names.lookup ("super" : Str)).isSome = false) (hd1 : (g1 == ("__debug__" : Str)) = false) (hcd1 : (g1 == ("__classdict__" : Str)) = false)
    (hd2 : (g2 == ("__debug__" : Str)) = false) (hcd2 : (g2 == ("__classdict__" : Str)) = false) :
    FnOk P w K mg base CX0 (k + 1) f fd [(("self" : Str)), g1, g2] (spX C 2 fun xs => [(f2, xs.getD 1 .non), (f1, xs.getD 0 .non)]) := by
  refine ok_xinit F T hb S rfl hks har hsu hmC hop hln gS htop fun A outer s H cc c a xs Q E hl ea hQ => ?_
  match xs, hl with
  | [x, y], _ =>
    refine ⟨_, pss_one (ps_asg (pe_tup (pa_cons (pe_var (i := 1) rfl (.inl (S.par g1 (by simp))) hd1 hcd1) (pa_cons (pe_var (i := 2) rfl (.inl (S.par g2 (by simp))) hd2 hcd2) pa_nil)))
      (pg_tup rfl (pgs_cons (pg_ost (pe_var (i := 0) rfl (.inl (S.par _ (by simp))) (by decide) (by decide))) (pgs_cons (pg_ost (pe_var (i := 0) rfl (.inl (S.par _ (by simp))) (by decide) (by decide))) pgs_nil))) (hw := no_swap S.kind)), ?_⟩
    refine ⟨x, rfl, y, rfl, two_ok, fun p hp => ⟨p, [x, y], rfl, SqT.of upd_same, rfl, x, [y], rfl, ?_⟩⟩
    have hap : a ≠ p := ne_of_none ea hp
    refine ⟨.ref a, rfl, a, C, rfl, T, hno1, .inl ⟨by rw [upd_ne hap]; exact ea, fun dx hd hne => ?_⟩⟩
    refine ⟨y, [], rfl, .ref a, rfl, a, C, rfl, T, hno2, .inr ⟨dx, [(f1, x)], upd_same, by rw [upd_ne hne, upd_same], by simp, rfl, ?_⟩⟩
    have hdp : H dx = none ∧ dx ≠ p := by
      by_cases e : dx = p
      · rw [e, upd_same] at hd
        cases hd
      · rw [upd_ne e] at hd
        exact ⟨hd, e⟩
    refine hQ _ dx (fun b o hb e => ?_) hdp.1 hne ?_ upd_same
    · rw [upd_ne (ne_of_none e hdp.1), upd_ne hb, upd_ne (ne_of_none e hdp.1), upd_ne (ne_of_none e hp)]
      exact e
    · rw [upd_ne (Ne.symm hne), upd_same]
end
end EX2
set_option Elab.async false
set_option linter.all false
set_option maxRecDepth 100000
set_option maxHeartbeats 2000000
namespace EX2
open PySem PySem.Spec PyProof.Rows L2
/-- C(e, ..) -/
def tMkX (C : Addr) (n : Nat) (fs : List V → List (Str × V)) (ta : TA) : TE := fun σ H Q => ta σ H fun vs H1 => vs.length = n ∧ ∀ (a dx : Addr) (H' : Hp), H1 a = none → H1 dx = none → dx ≠ a → Evl.Ex H1 H' → H' a = some (exo a C (some dx)) → H' dx = some (exd dx (fs vs)) → Q (.ref a) H'
section
variable {X : Cx} {e : Expr} {es : List Expr} {ta : TA} {p pos : Pos}
theorem pe_mkx {x : Str} {C fI : Addr} {k n : Nat} {fd : FuncData} {ps : List Str} {fs : List V → List (Str × V)} (T : ExK X.K C) (iC : PySem.W.findIn X.K (.ref C) "__init__" = some (some (.ref fI))) (tI : PySem.W.typeIn X.K (.ref fI) = some (.type "function"))
    (F1 : FnOk X.prog X.w X.K X.mg X.base CX0 k fI fd ps (spX C n fs)) (hr : Room (k + 1) X.A) (hb : Binds X.K fd ps []) (hg : Gl X x) (hm : X.mg x = some (.ref C)) (hn : n ≤ 1000) (ha : PA X (e :: es) ta)
    (hdb : (x == ("__debug__" : Str)) = false := by decide) (he : starEach (e :: es) X.env = (false, eval e X.env) :: starEach es X.env := by rfl) (hpl : (backTo pos (starEach es X.env)).any (·.1) = false := by rfl) :
    PE X (.Call (.Name x p) (e :: es) [] pos) (tMkX C n fs ta) := by
  refine ⟨fun pins s σ H Q I h => ?_⟩
  refine wpAny_Call_Name_kw (ld_glob I hg hm ?_ hdb)
  refine PySem.W.callWith_K (h₀ := X.base) I.ok.mod.kin T.kC (thn (ha.run pos pins s σ H _ I h) fun us s1 ⟨vs, H1, I1, r1, hz, q1⟩ => ⟨I1.kIn, ?_⟩) he hpl
  show wpAny _ _ (call (.ref C) us) _ _ _
  obtain ⟨nm, Nn, qd, bs, bm, hdct, sn, sub, ab, col, dd, k0, k1, k2, k3, k5, hC, hT⟩ := PySem.W.excInit_of I1.kIn T.init
  obtain ⟨hp, g, dr, tk, os⟩ := s1
  have hsz : hp.objs.size ≤ hp.objs.size + 1 := Nat.le_succ _
  have hn1 : H1 (hp.objs.size + 1) = none := I1.hok.fresh hsz
  have kk : ∀ b o, hp.get? b = some o → ((hp.push (PySem.W.kdv_tup us)).push (PySem.HandSPX.excO C hp.objs.size)).get? b = some o := fun b o e => Heap.get?_push_of_some _ (Heap.get?_push_of_some _ e)
  have hget : ((hp.push (PySem.W.kdv_tup us)).push (PySem.HandSPX.excO C hp.objs.size)).get? (hp.objs.size + 1) = some (PySem.HandSPX.excO C hp.objs.size) := by heap_get
  have I2 : Inv X pins σ (upd H1 (hp.objs.size + 1) (exo (hp.objs.size + 1) C none)) ⟨(hp.push (PySem.W.kdv_tup us)).push (PySem.HandSPX.excO C hp.objs.size), g, dr, tk, os⟩ :=
    I1.laid (t' := tk) (a := hp.objs.size + 1) (o := exo (hp.objs.size + 1) C none) (h' := (hp.push (PySem.W.kdv_tup us)).push (PySem.HandSPX.excO C hp.objs.size)) kk hsz (exo_ok hget)
  have r2 : Vals (V.ref (hp.objs.size + 1) :: vs) (Value.ref (hp.objs.size + 1) :: us) := .cons rfl r1
  have hus : us.length ≤ sizeLine := by
    rw [← Paired.length r1, hz, sizeLine_eq]
    omega
  have hsp : spX C n fs (V.ref (hp.objs.size + 1) :: vs) (upd H1 (hp.objs.size + 1) (exo (hp.objs.size + 1) C none)) (fun v H2 => v = .non ∧ Q (.ref (hp.objs.size + 1)) H2) (fun _ _ _ => False) := by
    refine ⟨_, vs, rfl, hz, upd_same, fun H' dx k1 hd hne h1 h2 => ⟨rfl, ?_⟩⟩
    rw [upd_ne hne] at hd
    refine q1 _ dx H' hn1 hd hne (fun b o hb => ?_) h1 h2
    have hba : b ≠ hp.objs.size + 1 := ne_of_none hb hn1
    refine k1 b o hba ?_
    rw [upd_ne hba]
    exact hb
  have hlen := F1.len _ _ _ _ hsp
  have hbt := hb ⟨(hp.push (PySem.W.kdv_tup us)).push (PySem.HandSPX.excO C hp.objs.size), g, dr, tk, os⟩ (Value.ref (hp.objs.size + 1) :: us) I2.kIn (by rw [List.append_nil, ← r2.length]; exact hlen)
  rw [List.append_nil] at hbt
  refine wpAny_call (PySem.HandSPX.call_own F.excBase_Exception hT hC (PySem.W.looks_findIn I1.kIn iC) (fun self => PySem.W.bind_fn I1.kIn self tI) hus
    (codeAny_mono (F1.run _ X.stack _ _ ⟨Value.ref (hp.objs.size + 1) :: us, []⟩ (Value.ref (hp.objs.size + 1) :: us) _ _ (fun _ _ _ => False) (hr.make C us []) (I2.env0.make C us []) hbt r2 hsp) fun r s' hq' => ?_))
  cases r with
  | error er => exact False.elim hq'
  | ok fl =>
    cases fl with
    | ret u =>
      have hq2 : CE X.stack X.prog X.w _ _ _ u s' := hq'
      obtain ⟨v, H2, I3, rv, ev, q2⟩ := I2.after hq2
      subst ev
      exact ⟨rv, ⟨V.ref (hp.objs.size + 1), H2, I3, rfl, q2⟩⟩
    | next => exact False.elim hq'
    | brk => exact False.elim hq'
    | cont => exact False.elim hq'
/-! ### fields -/
/-- e.f, e an exception -/
def tXg (K : PySem.W.Frag) (f : Str) (te : TE) : TE := fun σ H Q => te σ H fun x H1 => ∃ (a C dx : Addr) (fs : List (Str × V)) (v : V), x = .ref a ∧ XfC K C ∧ PySem.W.findIn K (.ref C) f = some none ∧ H1 a = some (exo a C (some dx)) ∧ H1 dx = some (exd dx fs) ∧ fs.lookup f = some v ∧ Q v H1
theorem pe_xg {f : Str} {te : TE} (he : PE X e te) (hb : attributeBase e f X.env (eval e X.env) = eval e X.env := by rfl) : PE X (.Attribute e f pos) (tXg X.K f te) := by
  refine ⟨fun pins s σ H Q I h => ?_⟩
  refine attr_of hb (thn (he.run pins s σ H _ I h) fun u s1 hh => ?_)
  obtain ⟨x, H1, I1, rx, a, C, dx, fs, v, ex, T, hno, ea, ed, l, q⟩ := hh
  subst ex
  obtain rfl : u = Value.ref a := rx
  obtain ⟨t1, ho⟩ := exo_at I1.hok ea
  obtain ⟨mA, hns, rel⟩ := exd_at I1.hok ed
  obtain ⟨od, hod, hl⟩ := lookIn_ns hns
  obtain ⟨u, hu, ru⟩ := RelO.some_of (v := v) (o := mA f) (by rw [← l]; exact rel f)
  have J : PySem.W.InstAt s1.heap a { cls := .ref C, dict := some dx, data := .fields #[.ref t1, .none, .none, .none, .bool false, .none] } C (some od) := ⟨ho, rfl, rfl, hod⟩
  exact HandSPX.exc_get I1.kIn J T.ga T.gg T.exC (PySem.W.findObj_own T.hdC hno rfl (by rw [hl, hu])) (handed_of ru) ⟨v, H1, I1.tok _, ru, q⟩
end
end EX2
set_option Elab.async false
set_option linter.all false
set_option maxRecDepth 100000
set_option maxHeartbeats 4000000
namespace PySem.W
open PySem PySem.Spec PySem.Calls PyProof.Rows
section
variable {prog : Program} {w : World} {A : Around} {E : Value → Shared → Prop} {s : Shared} {K : Frag} {x D : Addr} {ox : Obj} {od : Option Obj}
theorem findObj_dataO {C : Addr} {name : Str} {a g : Value} (hc : (clsIn K C).isSome = true) (ha : findIn K (.ref C) name = some (some a)) (hg : specialIn K a "__get__" = some (some g)) (ht : takesIn K a = some true) : findObj K C od name = some (.bind g a) := by
  obtain ⟨cd, hc⟩ := Option.isSome_iff_exists.mp hc
  unfold findObj
  rw [hc, Option.bind_some, ha, Option.bind_some]
  simp [hg, ht]
theorem kin_classD {Q : Option Value → Shared → Prop} (hga : findIn K (.ref D) "__getattribute__" = some (some (.builtin "BaseException.__getattribute__"))) (hgt : findIn K (.ref D) "__getattr__" = some none) (hsub : subIn K (.ref D) (.type "BaseException") = some true)
    (hdct : hasDictIn K D = true) (ha : findIn K (.ref D) "__class__" = some (some (.builtin "object.__class__")))
    (hn : specialIn K (.builtin "object.__class__") "__get__" = some (some (.builtin "getset_descriptor.__get__"))) (htk : takesIn K (.builtin "object.__class__") = some true) (hm : mroIn K D (.type "object") = some true)
    (X : K.In s.heap) (I : InstAt s.heap x ox D od) (h : Q (some (.ref D)) { s with toks := s.toks + 1 }) : wpAny (model prog w) A (getAttr? (.ref x) "__class__") Q E s := by
  have hf : findObj K D od "__class__" = some (.bind (.builtin "getset_descriptor.__get__") (.builtin "object.__class__")) := findObj_dataO (by obtain ⟨cd, hc, _⟩ := any_some hdct; rw [hc]; rfl) ha hn htk
  obtain ⟨hp, g, d, t, os⟩ := s
  have L0 := I.type (M := model prog w)
  have L1 := looks_findIn (M := model prog w) X hga
  have L2 := looks_findIn (M := model prog w) X hgt
  have L3 := looks_find (M := model prog w) X I hf
  have sub : Looks (model prog w) hp (isInstance (.ref x) (.type "BaseException")) true := L0.andThen (looks_subIn X hsub)
  have hx0 : (false && onTheHeap (Value.builtin "BaseException.__getattribute__")) = false := rfl
  have hx2 : (Value.builtin "BaseException.__getattribute__" == Value.builtin "object.__getattribute__") = false := by decide +kernel
  have hx1 : (onTheHeap (Value.ref D) && Value.builtin "BaseException.__getattribute__" == Value.builtin "object.__getattribute__") = false := by rw [hx2]; rfl
  unfold getAttr? getAttrBy? getAttrBy
  refine wpAny_bind (wpAny_mkText (wpAny_bind (wpAny_attempt (wpAny_holding (wpAny_bind (L0.at (wpAny_bind (L1.at ?_))))))))
  show wpAny _ _ (if (onTheHeap (Value.ref D) && Value.builtin "BaseException.__getattribute__" == Value.builtin "object.__getattribute__") = true then _ else _) _ _ _
  rw [hx1, if_neg Bool.false_ne_true]
  unfold getAttrByItsOwn hookBefore
  refine wpAny_bind ?_
  rw [if_pos (show onTheHeap (Value.ref D) = true from rfl)]
  refine L2.at ?_
  refine wpAny_bind (wpAny_attempt (wpAny_holding ?_))
  unfold callGetattribute
  rw [hx0, if_neg Bool.false_ne_true]
  unfold boundAndCalled
  rw [PySem.F.excAttr_ValueError.ga.bind (.ref x)]
  refine wpAny_bind (wpAny_pure ?_)
  show wpAny _ _ (call (.builtin "BaseException.__getattribute__") [.ref x, .str "__class__" t]) _ _ _
  refine wpAny_call (codeAny_call_builtin PySem.F.excAttr_ValueError.ga.plain PySem.F.entry_bexc_ga ?_)
  refine @check_slot (model prog w) _ _ ⟨hp, g, d, t + 1, os⟩ "BaseException.__getattribute__" "BaseException" "__getattribute__" (.ref x) [.str "__class__" t] [] _ (by decide +kernel) (by decide +kernel) sub (PySem.F.args_bexc_ga (.ref x) (.str "__class__" t)) ?_
  unfold Builtin.«object.__getattribute__»
  refine wpAny_bind (wpAny_of_eq (a := ((Value.ref x : Value), [Value.str "__class__" t])) (by first | rfl | (simp only [slotArgs]; rfl)) ?_)
  refine wpAny_bind (wpAny_pure (wpAny_bind (L0.at (wpAny_bind (L3.at ?_)))))
  show wpAny _ _ (holding [Value.builtin "object.__class__"] (call (.builtin "getset_descriptor.__get__") [.builtin "object.__class__", .ref x, .ref D]) >>= ret) _ _ _
  refine wpAny_bind (wpAny_holding (wpAny_call (class_get (s := ⟨hp, g, d, t + 1, os⟩) (ox := ox) (od := od) X I hm ?_)))
  refine wpAny_pure ?_
  show wpAny _ _ (handedOut (.ref D)) _ _ _
  rw [handedOut_of (v := .ref D) rfl]
  first
    | exact wpAny_pure (wpAny_pure h)
    | exact wpAny_pure h
    | exact wpAny_pure (wpAny_bind (wpAny_pure (wpAny_pure h)))
theorem kitx_excD (hga : findIn K (.ref D) "__getattribute__" = some (some (.builtin "BaseException.__getattribute__"))) (hgt : findIn K (.ref D) "__getattr__" = some none) (hsub : subIn K (.ref D) (.type "BaseException") = some true) (hdct : hasDictIn K D = true) (ha : findIn K (.ref D) "__class__" = some (some (.builtin "object.__class__")))
    (hn : specialIn K (.builtin "object.__class__") "__get__" = some (some (.builtin "getset_descriptor.__get__"))) (htk : takesIn K (.builtin "object.__class__") = some true) (hm : mroIn K D (.type "object") = some true) :
    KitX K (.ref x) (.ref D) (fun h => InstAt h x ox D od) where
  ty := fun _ _ _ I => I.type
  it := fun _ _ X _ => by
    obtain ⟨cdD, hcD, _⟩ := any_some hdct
    unfold clsIn at hcD
    split at hcD
    · rename_i c' d' cd' sl' ho
      intro A' Q' E' s' k q
      unfold isType loadHead
      exact wpAny_bind (wpAny_loadPart (k _ _ (X _ _ ho)) (wpAny_pure q))
    · cases hcD
  ne := fun h tp dd its n sl X htp => by
    obtain ⟨cdD, hcD, _⟩ := any_some hdct
    refine Bool.eq_false_iff.mpr fun q => ?_
    have e : D = tp := Value.ref.inj (beq_iff_eq.mp q)
    subst e
    unfold clsIn at hcD
    split at hcD
    · rename_i c' d' cd' sl' ho
      have z := (X _ _ ho).symm.trans htp
      cases z
    · cases hcD
  ca := fun X I k => kin_classD hga hgt hsub hdct ha hn htk hm X I k
end
end PySem.W
namespace EX2
open PySem PySem.Spec PyProof.Rows L2
/-- an exception that is held as a value -/
def ExAt (H : Hp) (a C : Addr) (fs : List (Str × V)) : Prop := ∃ dx, H a = some (exo a C (some dx)) ∧ H dx = some (exd dx fs)
theorem ExAt.ext {H H' : Hp} {a C : Addr} {fs : List (Str × V)} (h : ExAt H a C fs) (e : Evl.Ex H H') : ExAt H' a C fs := by
  obtain ⟨dx, h1, h2⟩ := h
  exact ⟨dx, e _ _ h1, e _ _ h2⟩
theorem ExAt.inst {X : Cx} {pins : List (Addr × Obj)} {σ : L2.St} {H : Hp} {s : Shared} {a C : Addr} {fs : List (Str × V)} (I : Inv X pins σ H s) (h : ExAt H a C fs) : ∃ ox od, PySem.W.InstAt s.heap a ox C (some od) := by
  obtain ⟨dx, ea, ed⟩ := h
  obtain ⟨t1, ho⟩ := exo_at I.hok ea
  obtain ⟨mA, hns, rel⟩ := exd_at I.hok ed
  obtain ⟨od, hod, hl⟩ := lookIn_ns hns
  exact ⟨{ cls := .ref C, dict := some dx, data := .fields #[.ref t1, .none, .none, .none, .bool false, .none] }, od, ho, rfl, rfl, hod⟩
/-- isinstance(e, c) -/
def rIsX (K : PySem.W.Frag) : List V → Hp → VK → Prop := fun xs H Q => ∃ (a C : Addr) (fs : List (Str × V)) (c : V) (u : Value) (b : Bool), xs = [.ref a, c] ∧ ClsV c u ∧ ExAt H a C fs ∧ ExcC K C ∧ PySem.W.kitOne K (.ref C) u = some b ∧ Q (.bl b) H
/-- isinstance(e, (c1, c2, ..)) -/
def rIsXT (K : PySem.W.Frag) : List V → Hp → VK → Prop := fun xs H Q => ∃ (a C : Addr) (fs : List (Str × V)) (tp : Addr) (cs : List V) (us : List Value) (b : Bool), xs = [.ref a, .ref tp] ∧ H tp = some (.tup cs) ∧ Paired ClsV cs us ∧ ExAt H a C fs ∧ ExcC K C ∧ PySem.W.kitAny K (.ref C) us = some b ∧ Q (.bl b) H
section
variable {X : Cx}
theorem call_isX : CallR X (.builtin "isinstance") (rIsX X.K) := by
  intro pins s σ H xs us Q I r h
  obtain ⟨a, C, fs, c, u, b, rfl, k, ha, T, e, q⟩ := h
  obtain ⟨u1, u2, rfl, r1, r2⟩ := vals2 r
  have e2 := k.eq r2
  subst e2
  obtain rfl : u1 = Value.ref a := r1
  obtain ⟨ox, od, J⟩ := ha.inst I
  exact PySem.W.kia_one (PySem.W.kitx_excD T.hg T.hk T.hs T.hd T.ha T.hn T.ht T.hm) I.kIn J e (fun z => nomatch z) fun tk => ⟨.bl b, H, I.tok tk, rfl, q⟩
theorem call_isXT : CallR X (.builtin "isinstance") (rIsXT X.K) := by
  intro pins s σ H xs us Q I r h
  obtain ⟨a, C, fs, tp, cs, ws, b, rfl, et, k, ha, T, e, q⟩ := h
  obtain ⟨u1, u2, rfl, r1, r2⟩ := vals2 r
  obtain rfl : u1 = Value.ref a := r1
  obtain rfl : u2 = Value.ref tp := r2
  obtain ⟨ox, od, J⟩ := ha.inst I
  obtain ⟨_, its, rv, o, h1, h2, n, h3⟩ := (show ObjOk X.prog X.w H s.heap tp (.tup cs) from I.hok tp _ et)
  have e3 := ClsV.all k rv
  subst e3
  obtain ⟨oc, od2, dt, sl⟩ := o
  simp only at h2 h3
  subst h2 h3
  exact PySem.W.kia_tup (PySem.W.kitx_excD T.hg T.hk T.hs T.hd T.ha T.hn T.ht T.hm) I.kIn J h1 e (fun z => nomatch z) fun tk => ⟨.bl b, H, I.tok tk, rfl, q⟩
end
/-! ### what a value is, told by the heap: data with dicts of ints and texts -/
def kD : Key → PyData
  | .inl i => .int i
  | .inr x => .str x
mutual
inductive Dq (H : Hp) : V → PyData → Prop
  | non : Dq H .non .none
  | bl (b : Bool) : Dq H (.bl b) (.bool b)
  | int (i : Int) : Dq H (.int i) (.int i)
  | str (x : Str) : Dq H (.str x) (.str x)
  | lst {a : Addr} {xs : List V} {ds : List PyData} (e : H a = some (.lst xs)) (h : DqAll H xs ds) : Dq H (.ref a) (.list ds)
  | tup {a : Addr} {xs : List V} {ds : List PyData} (e : H a = some (.tup xs)) (h : DqAll H xs ds) : Dq H (.ref a) (.tuple ds)
  | dk {a : Addr} {kvs : List (Key × V)} {ds : List PyData} (e : H a = some (.dK kvs)) (h : DqAll H (kvs.map (·.2)) ds) : Dq H (.ref a) (.dict ((kvs.map fun p => kD p.1).zip ds))
inductive DqAll (H : Hp) : List V → List PyData → Prop
  | nil : DqAll H [] []
  | cons {x : V} {xs : List V} {d : PyData} {ds : List PyData} (h : Dq H x d) (t : DqAll H xs ds) : DqAll H (x :: xs) (d :: ds)
end
mutual
theorem Dq.ext {H H' : Hp} (e : Evl.Ex H H') : ∀ {x : V} {d : PyData}, Dq H x d → Dq H' x d
  | _, _, .non => .non
  | _, _, .bl b => .bl b
  | _, _, .int i => .int i
  | _, _, .str x => .str x
  | _, _, .lst q h => .lst (e _ _ q) (DqAll.ext e h)
  | _, _, .tup q h => .tup (e _ _ q) (DqAll.ext e h)
  | _, _, .dk q h => .dk (e _ _ q) (DqAll.ext e h)
theorem DqAll.ext {H H' : Hp} (e : Evl.Ex H H') : ∀ {xs : List V} {ds : List PyData}, DqAll H xs ds → DqAll H' xs ds
  | _, _, .nil => .nil
  | _, _, .cons h t => .cons (Dq.ext e h) (DqAll.ext e t)
end
section
variable {P : Program} {w : World} {H : Hp} {h : Heap}
theorem keys_reads {es : List DictEntry} {vs : List (Key × Value)} (p : PySem.Pairs (mixKind P w) es vs) : ReadsAll h (es.map (·.key)) (vs.map fun q => kD q.1) [] := by
  induction p with
  | nil => exact .nil
  | @cons e kv es kvs hk _ _ ih =>
    refine .cons (as := []) (bs := []) ?_ ih
    show Reads h e.key (kD kv.1) []
    rcases keyIs_shape hk with ⟨i, t, e1, e2⟩ | ⟨x, t, e1, e2⟩
    · rw [e2, e1]
      exact .int i t
    · rw [e2, e1]
      exact .str x t
theorem vals_pairs {es : List DictEntry} {vs : List (Key × Value)} (p : PySem.Pairs (mixKind P w) es vs) : es.map (·.val) = vs.map (·.2) := by
  induction p with
  | nil => rfl
  | cons hk hv _ ih => simp [ih, hv]
theorem kv_vals {kvs : List (Key × V)} {vs : List (Key × Value)} (r : KV kvs vs) : L2.Vals (kvs.map (·.2)) (vs.map (·.2)) ∧ (kvs.map fun p => kD p.1) = vs.map fun p => kD p.1 := by
  unfold KV at r
  induction r with
  | nil => exact ⟨.nil, rfl⟩
  | cons h _ ih => exact ⟨.cons h.2 ih.1, by simp only [List.map_cons, ih.2, h.1]⟩
theorem DqAll.length {xs : List V} {ds : List PyData} (q : DqAll H xs ds) : xs.length = ds.length := by
  induction xs generalizing ds with
  | nil => cases q; rfl
  | cons x xs ih =>
    cases q with
    | cons _ t => simp [ih t]
/-- sys.modules is a dict -/
def SysD (h : Heap) : Prop := ∃ o es n, h.get? sysModules = some o ∧ o.data = .dict es n
mutual
theorem Dq.reads (ok : HOk P w H h) (sd : SysD h) : ∀ {x : V} {d : PyData} (u : Value), Dq H x d → L2.RelV x u → ∃ as, Reads h u d as ∧ sysModules ∉ as
  | _, _, u, .non, r => by
    obtain rfl : u = Value.none := r
    exact ⟨_, .none, by simp⟩
  | _, _, u, .bl b, r => by
    obtain rfl : u = Value.bool b := r
    exact ⟨_, .bool b, by simp⟩
  | _, _, u, .int i, r => by
    obtain ⟨t, rfl⟩ := r
    exact ⟨_, .int i t, by simp⟩
  | _, _, u, .str x, r => by
    obtain ⟨t, rfl⟩ := r
    exact ⟨_, .str x t, by simp⟩
  | _, _, u, .lst (a := a) (xs := xs) e q, r => by
    obtain rfl : u = Value.ref a := r
    obtain ⟨hz, its, n, rv, ho⟩ := (show ObjOk P w H h a (.lst xs) from ok a _ e)
    obtain ⟨as, rs, hn⟩ := DqAll.reads ok sd its q rv
    refine ⟨_, .list ho rfl rfl rs, fun z => ?_⟩
    rcases List.mem_cons.mp z with z | z
    · obtain ⟨o, es, m, h1, h2⟩ := sd
      rw [z, ho] at h1
      cases h1
      cases h2
    · exact hn z
  | _, _, u, .tup (a := a) (xs := xs) e q, r => by
    obtain rfl : u = Value.ref a := r
    obtain ⟨hz, its, rv, o, h1, h2, n, h3⟩ := (show ObjOk P w H h a (.tup xs) from ok a _ e)
    obtain ⟨as, rs, hn⟩ := DqAll.reads ok sd its q rv
    exact ⟨_, .tuple h1 h2 h3 rs, hn⟩
  | _, _, u, .dk (a := a) (kvs := kvs) (ds := ds) e q, r => by
    obtain rfl : u = Value.ref a := r
    obtain ⟨hz, hs, vs, rk, o, es, ep, h1, h2, h3, _, h5, _⟩ := (show ObjOk P w H h a (.dK kvs) from ok a _ e)
    obtain ⟨rv, ek⟩ := kv_vals rk
    obtain ⟨as, rs, hn⟩ := DqAll.reads ok sd _ q rv
    have hl : (kvs.map fun p => kD p.1).length = ds.length := by
      have := DqAll.length q
      rw [List.length_map] at this
      rw [List.length_map]
      exact this
    refine ⟨_, .dict h1 h2.1 h3 (as := []) (bs := as) ?_ ?_, fun z => ?_⟩
    · rw [List.map_fst_zip (Nat.le_of_eq hl), ek]
      exact keys_reads h5
    · rw [List.map_snd_zip (Nat.le_of_eq hl.symm), vals_pairs h5]
      exact rs
    · rcases List.mem_cons.mp (show sysModules ∈ a :: as from z) with z | z
      · rw [z] at hs
        simp at hs
      · exact hn z
theorem DqAll.reads (ok : HOk P w H h) (sd : SysD h) : ∀ {xs : List V} {ds : List PyData} (us : List Value), DqAll H xs ds → L2.Vals xs us → ∃ as, ReadsAll h us ds as ∧ sysModules ∉ as
  | _, _, _, .nil, .nil => ⟨_, .nil, by simp⟩
  | _, _, _, .cons (d := d) q t, .cons r rs => by
    obtain ⟨a1, h1, n1⟩ := Dq.reads ok sd _ q r
    obtain ⟨a2, h2, n2⟩ := DqAll.reads ok sd _ t rs
    exact ⟨_, .cons h1 h2, by rw [List.mem_append]; exact fun z => z.elim n1 n2⟩
end
end
end EX2
set_option Elab.async false
set_option linter.all false
set_option maxRecDepth 100000
set_option maxHeartbeats 4000000
namespace EX2
open PySem PySem.Spec PyProof.Rows L2
/-! ### repr of data; the stack holds no repr -/
def rReprD : List V → Hp → VK → Prop := fun xs H Q => ∃ (x : V) (d : PyData), xs = [x] ∧ Dq H x d ∧ d.showable = true ∧ d.shown.length ≤ sizeLine ∧ d.depth ≤ 60 ∧ Q (.str d.shown) H
section
variable {X : Cx}
theorem call_reprD (hg : X.A.guards = some []) (hu : X.A.units + 65 < cLine) (sd : SysD X.base) : CallR X (.builtin "repr") rReprD := by
  intro pins s σ H xs us Q I r h
  obtain ⟨x, d, rfl, hd, hs, hz, hdp, q⟩ := h
  obtain ⟨u, rfl, r1⟩ := vals1 r
  have sd1 : SysD s.heap := by
    obtain ⟨o, es, n, h1, h2⟩ := sd
    exact ⟨o, es, n, I.bk _ _ h1, h2⟩
  cases hd with
  | non =>
    obtain rfl : u = Value.none := r1
    simp only [PyData.shown] at q
    exact PySem.P.repr_of_none ⟨.str _, H, I.tok _, ⟨_, rfl⟩, q⟩
  | bl b =>
    obtain rfl : u = Value.bool b := r1
    simp only [PyData.shown] at q
    exact PySem.P.repr_of_bool ⟨.str _, H, I.tok _, ⟨_, rfl⟩, q⟩
  | int i =>
    obtain ⟨t, rfl⟩ := r1
    simp only [PyData.shown] at q
    simp only [PyData.showable, decide_eq_true_eq] at hs
    exact PySem.P.repr_of_int hs ⟨.str _, H, I.tok _, ⟨_, rfl⟩, q⟩
  | str y =>
    obtain ⟨t, rfl⟩ := r1
    simp only [PyData.shown] at q hz
    exact PySem.P.repr_of_str ⟨.str _, H, I.tok _, ⟨_, rfl⟩, q⟩ hz
  | @lst a xs ds e hq =>
    obtain ⟨as, rd, hn⟩ := Dq.reads I.hok sd1 u (.lst e hq) r1
    obtain rfl : u = Value.ref a := r1
    exact repr_of_reads' rd hs (fun _ => hn) hg (by omega) (fun _ _ e => e) (fun h' u tk k => ⟨.str _, H, I.kept (t' := tk) k, ⟨_, rfl⟩, q⟩) hz
  | @tup a xs ds e hq =>
    obtain ⟨as, rd, hn⟩ := Dq.reads I.hok sd1 u (.tup e hq) r1
    obtain rfl : u = Value.ref a := r1
    exact repr_of_reads' rd hs (fun _ => hn) hg (by omega) (fun _ _ e => e) (fun h' u tk k => ⟨.str _, H, I.kept (t' := tk) k, ⟨_, rfl⟩, q⟩) hz
  | @dk a kvs ds e hq =>
    obtain ⟨as, rd, hn⟩ := Dq.reads I.hok sd1 u (.dk e hq) r1
    obtain rfl : u = Value.ref a := r1
    exact repr_of_reads' rd hs (fun _ => hn) hg (by omega) (fun _ _ e => e) (fun h' u tk k => ⟨.str _, H, I.kept (t' := tk) k, ⟨_, rfl⟩, q⟩) hz
end
/-! ### promises where no repr runs around -/
structure FnOkG (P : Program) (w : World) (K : PySem.W.Frag) (mg : Str → Option Value) (base : Heap) (k : Nat) (f : Addr) (fd : FuncData) (ps : List Str) (sp : Sp) : Prop where
  len : ∀ vs H Q E, sp vs H Q E → vs.length = ps.length
  run : ∀ (A : Around) (outer : List Env) (s : Shared) (H : Hp) (args : Args) (us : List Value) (vs : List V) (Q : VK) (E : XK), A.guards = some [] → Room k A → Env0 P w K mg base A outer s H → BindsTo s fd args (ps.zip us) → Vals vs us → sp vs H Q E →
    codeAny (model P w) A (.call (.ref f) args) (CR CX0 outer P w H s Q E) s
theorem guards_deeper {A : Around} {env : Env} : (A.deeper env).guards = A.guards := by
  obtain ⟨hd, d, fr, gs, u⟩ := A
  cases gs <;> rfl
section
variable {P : Program} {w : World} {K : PySem.W.Frag} {mg : Str → Option Value} {base : Heap}
/-- THE RULE for a def (its body may ask for repr) -/
theorem okG {x qual : Str} {params : Arguments} {body : List Stmt} {scope : Scope} {dvs : List V} {kws : List (Str × V)} {f : Addr} {fd : FuncData} {N ps : List Str} {k : Nat} {sp : Sp} (F : FunD K x qual params body scope dvs kws f fd) (S : FnScope N ps scope) (len : ∀ vs H Q E, sp vs H Q E → vs.length = ps.length)
    (hbody : ∀ (cdv : Value) (A : Around) (outer : List Env) (s : Shared) (H : Hp) (vs : List V) (Q : VK) (E : XK), A.guards = some [] → Room k (A.deeper (envOfC qual scope s.heap.objs.size f cdv)) → sp vs H Q E →
      ∃ t, PSs (cxOf CX0 P w K mg base N qual scope f cdv A outer s H E) body t ∧ t { nx := fun _ H' => Q .non H', rt := Q } (start N vs) H) : FnOkG P w K mg base (k + 1) f fd ps sp := by
  refine ⟨len, fun A outer s H args us vs Q E hg hr e0 hb r hsp => ?_⟩
  obtain ⟨oc, od, dV, kV, doc, pm, an, cdv, ct, osl, rfl, lk, hcd, _, _⟩ := F.ex
  have hl := len _ _ _ _ hsp
  have KX : K.In s.heap := e0.mod.kin.keeps fun b o e => (e0.bs b o e).1
  have lim : s.heap.NoLimit := e0.mod.nolimit.keeps fun b o e => (e0.bs b o e).1
  have hkind : ∀ y ∈ ps.zip us, scope.names.lookup y.1 = some .local ∨ (scope.names.lookup y.1 = some .cell ∧ ((cellsFrom (s.heap.objs.size + 1) scope.names []).lookup y.1).isSome = true) := fun ⟨n, v⟩ hy => by
    rcases S.par n (List.of_mem_zip hy).1 with q | q
    · exact .inl q
    · exact .inr ⟨q, PySem.W.cellsFrom_some _ _ _ (.inl q)⟩
  refine codeAny_call_function hr.depth (KX _ _ lk) rfl S.co S.gen rfl (PySem.W.codeRec_of KX hcd) (hb _ _ _ _ ?_)
  refine wpAny_newFunctionEnv_cells S.kind hkind fun env he s1 x => ?_
  subst he
  refine ⟨lim.keeps x.toInCall.keep, codeAny_func ?_⟩
  obtain ⟨t, ht, hq⟩ := hbody cdv A outer s H vs Q E hg (hr.deeper _) hsp
  have I : Inv (cxOf CX0 P w K mg base N qual scope f cdv A outer s H E) [] (start N vs) H s1 := inv_start S hr.hd e0 hl r x
  refine wpAny_mono (ht.run [] s1 (start N vs) H _ I hq) (fun fl s' hs => ?_) fun e s' hs => hs
  have fin : ∀ {σ' : L2.St} {H' : Hp} {v : V} {u : Value}, Inv (cxOf CX0 P w K mg base N qual scope f cdv A outer s H E) [] σ' H' s' → RelV v u → Q v H' → CE outer P w H s Q u s' :=
    fun {σ' H' v u} J rv q => ⟨v, H', J.os, J.bare, J.base, J.hok, rv, q⟩
  cases fl with
  | ret u =>
    obtain ⟨v, σ', H', J, rv, q⟩ := hs
    exact fin J rv q
  | next =>
    obtain ⟨σ', H', J, q⟩ := hs
    exact fin (v := V.non) (u := Value.none) J rfl q
  | brk =>
    obtain ⟨_, _, _, q⟩ := hs
    exact False.elim q
  | cont =>
    obtain ⟨_, _, _, q⟩ := hs
    exact False.elim q
end
section
variable {X : Cx} {k : Nat} {f : Addr} {fd : FuncData} {ps : List Str} {sp : Sp} {x : Str} {p pos : Pos} {e : Expr} {es : List Expr} {t : TA}
theorem pe_callG (F : FnOkG X.prog X.w X.K X.mg X.base k f fd ps sp) (hG : X.A.guards = some []) (hr : Room k X.A) (hg : Gl X x) (hm : X.mg x = some (.ref f)) (hk : PySem.W.keepIn X.K (.ref f) = true) (hb : Binds X.K fd ps [])
    (ha : PA X (e :: es) t) (hdb : (x == ("__debug__" : Str)) = false := by decide) (he : starEach (e :: es) X.env = (false, eval e X.env) :: starEach es X.env := by rfl) (hpl : (backTo pos (starEach es X.env)).any (·.1) = false := by rfl) :
    PE X (.Call (.Name x p) (e :: es) [] pos) (tCall sp [] E0 t) := by
  refine ⟨fun pins s σ H Q I h => ?_⟩
  refine wpAny_Call_Name_kw (ld_glob I hg hm ?_ hdb)
  refine PySem.W.callWith_K (h₀ := X.base) I.ok.mod.kin hk (thn (ha.run pos pins s σ H _ I h) fun us s1 ⟨vs, H1, I1, r, q⟩ => ⟨I1.kIn, ?_⟩) he hpl
  have q0 : sp (vs ++ []) H1 Q E0 := q
  rw [List.append_nil] at q0
  have hl : us.length = ps.length := by rw [← r.length]; exact F.len _ _ _ _ q0
  have hbt := hb s1 us I1.kIn (by rw [List.append_nil]; exact hl)
  rw [List.append_nil] at hbt
  refine wpAny_call (codeAny_mono (F.run X.A X.stack s1 H1 ⟨us, []⟩ us vs Q E0 hG hr I1.env0 hbt r q0) fun r s' hq => ?_)
  cases r with
  | error e => exact False.elim hq
  | ok fl =>
    cases fl with
    | ret u => exact I1.after hq
    | next => exact False.elim hq
    | brk => exact False.elim hq
    | cont => exact False.elim hq
end
section
variable {P : Program} {w : World} {K : PySem.W.Frag} {mg mb : Str → Option Value} {k : Nat} {fa a : Addr} {fd : FuncData} {x : Str} {sp : Sp} {s₁ : Shared} {vs : List Value} {ns : List Int}
/-- the law called, from an abstract heap that tracks nothing but the script -/
theorem law_coreG (KX : K.In s₁.heap) (hns : s₁.heap.Ns mainGlobals mg) (hb : s₁.heap.Ns builtinsNs mb) (hbb : ∀ x : Str, x ≠ "__name__" → mb x = bootBuiltins x) (hlim : s₁.heap.NoLimit) (hg : s₁.gens = #[])
    (ha : s₁.heap.get? a = some { cls := .type "list", data := .seq vs.toArray }) (hr : Room k callerA)
    (F : ∀ base : Heap, K.In base → base.Ns mainGlobals mg → FnOkG P w K mg base k fa fd [x] sp) (hbind : ∀ (s : Shared) (u : Value), BindsTo s fd ⟨[u], []⟩ [(x, u)])
    (hsp : ∀ H : Hp, Only H → SqL K H a (ns.map V.int) → sp [.ref a] H (fun v _ => v = .bl true) fun _ _ _ => False)
    (H : Hp) (hO : Only H) (hS : SqL K H a (ns.map V.int)) (hok : HOk P w H s₁.heap) (hA : ∀ b, H b ≠ none → b = a) (hK : H a ≠ none → K.lookup a = none) :
    codeAny (model P w) callerA (.call (.ref fa) ⟨[.ref a], []⟩) (fun r s' => r = .ok (.ret (.bool true)) ∧ OldK s₁.heap s'.heap ∧ s'.os = s₁.os ∧ AllBare s'.gens) s₁ := by
  have only : ∀ {b : Addr}, (H b = none → False) → b = a := fun {b} z => hA b fun q => z q
  have free : ∀ {b : Addr} {o : Obj}, s₁.heap.get? b = some o → (∀ vs n, o.data ≠ .seq vs n) → H b = none := fun {b o} e d => Classical.byContradiction fun z => by
    have eb := only (b := b) z
    rw [eb, ha] at e
    cases e
    exact d _ _ rfl
  have names : ∀ {b : Addr} {m : Str → Option Value}, s₁.heap.Ns b m → (hidT s₁.heap H).Ns b m := fun {b m} ⟨o, es, ep, e, d, r⟩ => ⟨o, es, ep, hidT_get e (free e fun vs n q => by rw [d] at q; cases q), d, r⟩
  have kin : K.In (hidT s₁.heap H) := fun b o e => hidT_get (KX b o e) (Classical.byContradiction fun z => by
    have eb := only (b := b) z
    rw [eb] at e z
    rw [hK z] at e
    cases e)
  have M : Mod K mg (hidT s₁.heap H) := ⟨kin, names hns, ⟨mb, names hb, hbb⟩, let ⟨mc, h1, h2⟩ := hlim; ⟨mc, names h1, h2⟩⟩
  have e0 : Env0 P w K mg (hidT s₁.heap H) callerA [] s₁ H := ⟨rfl, M, fun b o e => of_hidT e, Nat.le_of_eq (hidT_size _ _), trivial, fun b hb => absurd (show b ∈ ([] : List Addr) from hb) (by simp), hok, .of_eq hg⟩
  refine codeAny_mono ((F _ kin (names hns)).run callerA [] s₁ H ⟨[.ref a], []⟩ [.ref a] [.ref a] _ _ rfl hr e0 (hbind s₁ (.ref a)) (.cons rfl .nil) (hsp H hO hS)) fun r s' h => ?_
  match r, h with
  | .error e, h => exact False.elim h
  | .ok (.ret u), h =>
    obtain ⟨v, H', os, bare, un, hok', r', q⟩ := h
    obtain rfl : v = .bl true := q
    obtain rfl : u = Value.bool true := r'
    refine ⟨rfl, OldK.of_keep fun b o e => ?_, os, bare⟩
    rcases hO b with z | ⟨ob, xs, z⟩
    · exact un.keep b o e z (fun z => absurd (show b ∈ ([] : List Addr) from z) (by simp)) (by simp)
    · obtain ⟨e1, _⟩ := hok b _ z
      obtain ⟨e2, _⟩ := hok' b _ (un.frzs b ob _ z)
      rw [e] at e1
      cases e1
      exact e2
theorem law_callG (KX : K.In s₁.heap) (hns : s₁.heap.Ns mainGlobals mg) (hb : s₁.heap.Ns builtinsNs mb) (hbb : ∀ x : Str, x ≠ "__name__" → mb x = bootBuiltins x) (hlim : s₁.heap.NoLimit) (hg : s₁.gens = #[])
    (ha : s₁.heap.get? a = some { cls := .type "list", data := .seq vs.toArray }) (hi : IntsAre vs ns) (hl : ns.length ≤ sizeLine) (hr : Room k callerA)
    (F : ∀ base : Heap, K.In base → base.Ns mainGlobals mg → FnOkG P w K mg base k fa fd [x] sp) (hbind : ∀ (s : Shared) (u : Value), BindsTo s fd ⟨[u], []⟩ [(x, u)])
    (hsp : ∀ H : Hp, Only H → SqL K H a (ns.map V.int) → sp [.ref a] H (fun v _ => v = .bl true) fun _ _ _ => False) :
    codeAny (model P w) callerA (.call (.ref fa) ⟨[.ref a], []⟩) (fun r s' => r = .ok (.ret (.bool true)) ∧ OldK s₁.heap s'.heap ∧ s'.os = s₁.os ∧ AllBare s'.gens) s₁ := by
  have rv := vals_ints hi
  cases hk : K.lookup a with
  | some o =>
    have e := KX a o hk
    rw [ha] at e
    cases e
    exact law_coreG KX hns hb hbb hlim hg ha hr F hbind hsp (fun _ => none) (fun _ => .inl rfl) (.inr ⟨_, vs.toArray, _, hk, rfl, rfl, rfl, by rw [List.size_toArray, hi.length]; exact hl, by simpa using rv⟩) (fun b u z => nomatch (show (none : Option HO) = some u from z)) (fun b z => absurd rfl z) fun z => absurd rfl z
  | none =>
    refine law_coreG KX hns hb hbb hlim hg ha hr F hbind hsp (fun b => if b = a then some (.frz { cls := .type "list", data := .seq vs.toArray } (.lst (ns.map V.int))) else none) (fun b => ?_) (.inl (.inr ⟨{ cls := .type "list", data := .seq vs.toArray }, if_pos rfl⟩)) (fun b u z => ?_) (fun b z => ?_) fun _ => hk
    · by_cases hb : b = a
      · exact .inr ⟨_, _, if_pos hb⟩
      · exact .inl (if_neg hb)
    · by_cases hb : b = a
      · have z' := (if_pos hb).symm.trans z
        cases z'
        rw [hb]
        exact ⟨ha, by rw [List.length_map]; exact hl, vs, _, rv, ha⟩
      · have z' := (if_neg hb).symm.trans z
        cases z'
    · by_cases hb : b = a
      · exact hb
      · exact absurd (if_neg hb) z
end
/-- the end of a law whose promise is such -/
theorem walk_ofG {l : PySem.W.OpenLaw} {n k : Nat} {q : Program} {loose : List Str} {XP : (Str → Option Value) → Heap → Prop} {YP : World → Heap → Prop} {d : DefRec} {x : Str}
    (hn : l.most = some n) (hn2 : n ≤ sizeLine) (hdf : d.params.defaults = []) (hr : Room k callerA)
    (F : ∀ (w : World) (mg : Str → Option Value) (fa : Addr) (h : Heap), YP w h → h.Ns mainGlobals mg → mg d.name = some (.ref fa) →
      ∃ (K : PySem.W.Frag) (fd : FuncData) (sp : Sp), K.In h ∧ (∀ (s : Shared) (u : Value), BindsTo s fd ⟨[u], []⟩ [(x, u)]) ∧
        (∀ (H : Hp) (a : Addr) (ns : List Int), ns.length ≤ n → Only H → SqL K H a (ns.map V.int) → sp [.ref a] H (fun v _ => v = .bl true) fun _ _ _ => False) ∧
        ∀ base : Heap, K.In base → base.Ns mainGlobals mg → FnOkG l.prog w K mg base k fa fd [x] sp) :
    PySem.W.WalkO q loose XP YP l.row.toRowW d [] (fun f vs => PySem.call f vs) := by
  refine Att.attach_call hn hdf fun w s₀ s₁ mg mb fa o pm cd doc a vs ns G Y ho hd hcd hmg hobj hints hlen hg => ?_
  obtain ⟨K, fd, sp, KX, hb, hsp, hF⟩ := F w mg fa _ Y G.T.g hmg
  exact law_callG KX G.T.g G.T.b G.T.builtins G.T.nolimit hg hobj hints (Nat.le_trans hlen hn2) hr hF hb (fun H hO hS => hsp H a ns hlen hO hS)
end EX2
set_option Elab.async false
set_option linter.all false
set_option maxRecDepth 100000
set_option maxHeartbeats 4000000
namespace EX2
open PySem PySem.Spec PyProof.Rows L2
/-! ### the head's facts -/
abbrev FnZ : Type := Option (Str × Str × Arguments × FuncBody × Scope × Addr × List Str × Addr)
def ini (K : PySem.W.Frag) (C : Str) : Addr := He.ma K (He.ga K C) "__init__"
def suW (K : PySem.W.Frag) (C : Str) : FnZ := match K.lookup (ini K C) with
  | some ⟨_, _, .func fd, _⟩ => some (fd.name, fd.qualname, fd.params, fd.body, fd.scope, fd.globals, fd.closure.map (·.1), fd.builtins)
  | _ => none
/-- an __init__ that says super().__init__: its class's name, its text, its fields -/
structure SuD where
  cls : Str
  qual : Str
  st : Stmt
  flds : List Str
def SuD.val (d : SuD) : FnZ := some ("__init__", d.qual, defArgs d.st, .stmts (defBody d.st), defScope d.st, mainGlobals, ["__class__"], builtinsNs)
def noneB : Value → Bool
  | .none => true
  | _ => false
theorem noneB_ok {v : Value} (h : noneB v = true) : v = .none := by
  cases v with
  | none => rfl
  | _ => cases h
def cellB (K : PySem.W.Frag) (D : Addr) (cl : List (Str × Addr)) : Bool := match cl with
  | [(_, cc)] => (match K.lookup cc with
    | some ⟨_, _, .cell (some (.ref D')), _⟩ => decide (D' = D)
    | _ => false)
  | _ => false
def fileB (K : PySem.W.Frag) (file : Str) (cd : Value) : Bool := match cd with
  | .ref c => (match K.lookup c with
    | some ⟨_, _, .fields vs, _⟩ => (match vs[2]? with
      | some (Value.str f _) => file == f
      | _ => false)
    | _ => false)
  | _ => false
def SuD.ok (file : Str) (K : PySem.W.Frag) (d : SuD) : Bool := match K.lookup (ini K d.cls) with
  | some ⟨_, _, .func fd, _⟩ => PySem.W.codeIn K fd.code d.qual && (noneB fd.defaults && (noneB fd.kwdefaults && (fd.annotations.isNone && (cellB K (He.ga K d.cls) fd.closure && fileB K file fd.code))))
  | _ => false
def clsB (K : PySem.W.Frag) (C B f : Addr) (flds : List Str) : Bool :=
  PySem.W.excInitIn K C bmE "Exception.__new__" && (PySem.W.excOver K C bmE && (PySem.W.hasDictIn K C && (He.eqO (PySem.W.findIn K (.ref C) "__setattr__") (some (some (.builtin "object.__setattr__"))) &&
  (decide (PySem.W.typeIn K (.ref C) = some (.type "type")) && (PySem.W.keepIn K (.ref C) &&
  (He.eqO (PySem.W.findIn K (.ref C) "__getattribute__") (some (some (.builtin "BaseException.__getattribute__"))) && (He.eqO (PySem.W.findIn K (.ref C) "__getattr__") (some none) &&
  (He.eqO (PySem.W.findIn K (.ref C) "__class__") (some (some (.builtin "object.__class__"))) && (He.eqO (PySem.W.findIn K (.ref C) "__init__") (some (some (.ref f))) && (decide (PySem.W.typeIn K (.ref f) = some (.type "function")) &&
  (He.eqO (PySem.W.ks_superIn K C C "__init__") (some (some (.builtin "Exception.__init__"))) && ((PySem.W.clsIn K C).any (fun cd => decide (cd.mro = .ref C :: .ref B :: bmE)) && flds.all fun x => He.eqO (PySem.W.findIn K (.ref C) x) (some none)))))))))))))
/-- the same of all classes: two facts of built-in things -/
def bltB (K : PySem.W.Frag) : Bool := He.eqO (PySem.W.specialIn K (.builtin "object.__class__") "__get__") (some (some (.builtin "getset_descriptor.__get__"))) && (decide (PySem.W.takesIn K (.builtin "object.__class__") = some true) &&
  (He.eqO (PySem.W.nsIn K cStatics "thirdparty.any") (some none) && He.dictB K sysModules))
def sudB (file : Str) (K : PySem.W.Frag) (B : Str) (xs : List SuD) : Bool := bltB K && (xs.all fun d => clsB K (He.ga K d.cls) (He.ga K B) (ini K d.cls) d.flds && d.ok file K)
/-- what is told of a class -/
structure ClsG (K : PySem.W.Frag) (C B f : Addr) (flds : List Str) : Prop where
  t : ExK K C
  x : XfC K C
  c : ExcC K C
  at_ : PySem.W.findIn K (.ref C) "__init__" = some (some (.ref f))
  ty : PySem.W.typeIn K (.ref f) = some (.type "function")
  su : PySem.W.ks_superIn K C C "__init__" = some (some (.builtin "Exception.__init__"))
  mro : ∃ cd, PySem.W.clsIn K C = some cd ∧ cd.mro = .ref C :: .ref B :: bmE
  no : ∀ x ∈ flds, PySem.W.findIn K (.ref C) x = some none
theorem mro_of {K : PySem.W.Frag} {C B : Addr} (h : ∃ cd, PySem.W.clsIn K C = some cd ∧ cd.mro = .ref C :: .ref B :: bmE) (b : Value) : PySem.W.mroIn K C b = some ((Value.ref C :: .ref B :: bmE).contains b) := by
  obtain ⟨cd, h1, h2⟩ := h
  unfold PySem.W.mroIn
  rw [h1, Option.bind_some, h2, if_neg (by simp)]
theorem has_ty {C B : Addr} (T : String) (h : bmE.contains (.type T) = true) : (Value.ref C :: .ref B :: bmE).contains (.type T) = true := by
  rw [List.contains_cons, List.contains_cons, h, Bool.or_true, Bool.or_true]
theorem clsB_ok {K : PySem.W.Frag} {C B f : Addr} {flds : List Str} (hb : bltB K = true) (h : clsB K C B f flds = true) : ClsG K C B f flds := by
  unfold clsB at h
  simp only [Bool.and_eq_true] at h
  obtain ⟨h1, h2, h3, h4, h5, h6, h7, h8, h9, h10, h11, h12, h13, h14⟩ := h
  unfold bltB at hb
  simp only [Bool.and_eq_true] at hb
  obtain ⟨b1, b2, b3, b4⟩ := hb
  have hm : ∃ cd, PySem.W.clsIn K C = some cd ∧ cd.mro = .ref C :: .ref B :: bmE := by
    obtain ⟨cd, e1, e2⟩ := PySem.W.any_some h13
    exact ⟨cd, e1, of_decide_eq_true e2⟩
  have s1 : PySem.W.subIn K (.ref C) (.type "BaseException") = some true := (mro_of hm _).trans (congrArg some (has_ty _ (by decide +kernel)))
  have s2 : PySem.W.subIn K (.ref C) (.type "Exception") = some true := (mro_of hm _).trans (congrArg some (has_ty _ (by decide +kernel)))
  have s3 : PySem.W.mroIn K C (.type "object") = some true := (mro_of hm _).trans (congrArg some (has_ty _ (by decide +kernel)))
  refine ⟨⟨h1, h2, h3, He.eqO_ok h4, s1, s2, of_decide_eq_true h5, h6⟩, ⟨He.eqO_ok h7, He.eqO_ok h8, s1, h3⟩, ⟨He.eqO_ok h7, He.eqO_ok h8, s1, h3, He.eqO_ok h9, He.eqO_ok b1, of_decide_eq_true b2, s3⟩, He.eqO_ok h10, of_decide_eq_true h11, He.eqO_ok h12, hm, fun x hx => He.eqO_ok (List.all_eq_true.mp h14 x hx)⟩
theorem ClsG.self {K : PySem.W.Frag} {C B f : Addr} {flds : List Str} (g : ClsG K C B f flds) : PySem.W.mroIn K C (.ref C) = some true := (mro_of g.mro _).trans (by simp)
/-- isinstance: another such class, the base, a built-in type that is not above -/
theorem ClsG.kit {K : PySem.W.Frag} {C B f D f' : Addr} {flds flds' : List Str} (g : ClsG K C B f flds) (g' : ClsG K D B f' flds') (h : D ≠ B) : PySem.W.kitOne K (.ref C) (.ref D) = some (decide (C = D)) := by
  unfold PySem.W.kitOne
  by_cases e : C = D
  · subst e
    rw [if_pos (by simp), decide_eq_true rfl]
  · have e' : (Value.ref C == Value.ref D) = false := by simp [e]
    rw [e', if_neg (by simp), decide_eq_false e]
    obtain ⟨cd, h1, h2⟩ := g'.mro
    show (if ((PySem.W.clsIn K D).isSome && PySem.W.typeIn K (.ref D) == some (.type "type")) = true then PySem.W.subIn K (.ref C) (.ref D) else none) = some false
    rw [h1, g'.t.tyC, if_pos (by rfl)]
    refine (mro_of g.mro _).trans ?_
    simp [Ne.symm e, h]
theorem ClsG.kitB {K : PySem.W.Frag} {C B f : Addr} {flds : List Str} (g : ClsG K C B f flds) (hB : ((PySem.W.clsIn K B).isSome && PySem.W.typeIn K (.ref B) == some (.type "type")) = true) : PySem.W.kitOne K (.ref C) (.ref B) = some true := by
  unfold PySem.W.kitOne
  by_cases e : C = B
  · subst e
    rw [if_pos (by simp)]
  · have e' : (Value.ref C == Value.ref B) = false := by simp [e]
    rw [e', if_neg (by simp)]
    show (if ((PySem.W.clsIn K B).isSome && PySem.W.typeIn K (.ref B) == some (.type "type")) = true then PySem.W.subIn K (.ref C) (.ref B) else none) = some true
    rw [if_pos hB]
    exact (mro_of g.mro _).trans (by simp)
theorem ClsG.kitT {K : PySem.W.Frag} {C B f : Addr} {flds : List Str} (g : ClsG K C B f flds) {T : String} {b : Bool} (hm : PySem.W.kitMeta T = true) (h : bmE.contains (.type T) = b) : PySem.W.kitOne K (.ref C) (.type T) = some b := by
  unfold PySem.W.kitOne
  have e' : (Value.ref C == Value.type T) = false := rfl
  rw [e', if_neg (by simp)]
  show (if PySem.W.kitMeta T = true then PySem.W.subIn K (.ref C) (.type T) else none) = some b
  rw [if_pos hm]
  refine (mro_of g.mro _).trans ?_
  rw [List.contains_cons, List.contains_cons, h]
  rfl
theorem suF_of {P : Program} {K : PySem.W.Frag} {d : SuD} (g : ClsG K (He.ga K d.cls) B (ini K d.cls) d.flds) (e : suW K d.cls = d.val) (c : d.ok P.main.file K = true) : ∃ fd, SuF P K d.qual d.st (He.ga K d.cls) (ini K d.cls) fd := by
  unfold suW at e
  unfold SuD.ok at c
  cases q : K.lookup (ini K d.cls) with
  | none =>
    rw [q] at c
    cases c
  | some o =>
    obtain ⟨oc, od, dt, osl⟩ := o
    rw [q] at c e
    cases dt with
    | func fd =>
      obtain ⟨n1, n2, n3, n4, n5, n6, n7, n8, n9, n10, n11, n12, n13, n14, n15⟩ := fd
      have e2 : (some (n1, n2, n3, n4, n5, n6, n7.map (·.1), n15) : FnZ) = some ((("__init__" : Str), d.qual, defArgs d.st, FuncBody.stmts (defBody d.st), defScope d.st, mainGlobals, [("__class__" : Str)], builtinsNs) : Str × Str × Arguments × FuncBody × Scope × Addr × List Str × Addr) := e
      simp only [Option.some.injEq, Prod.mk.injEq] at e2
      obtain ⟨h1, h2, h3, h4, h5, h6, h7, h8⟩ := e2
      subst h1 h2 h3 h4 h5 h6 h8
      have c2 : (PySem.W.codeIn K n13 d.qual && (noneB n8 && (noneB n9 && (n12.isNone && (cellB K (He.ga K d.cls) n7 && fileB K P.main.file n13))))) = true := c
      simp only [Bool.and_eq_true] at c2
      obtain ⟨k1, k2, k3, k4, k5, k6⟩ := c2
      obtain rfl := noneB_ok k2
      obtain rfl := noneB_ok k3
      obtain rfl : n12 = none := by
        cases n12 with
        | none => rfl
        | some a => cases k4
      obtain ⟨cd, rfl⟩ := He.codeIn_ref k1
      match n7, h7, k5 with
      | [(y, cc)], h7, k5 =>
        obtain rfl : y = ("__class__" : Str) := List.head_eq_of_cons_eq h7
        unfold cellB at k5
        dsimp only at k5
        unfold fileB at k6
        dsimp only at k6
        split at k5
        · rename_i kc kd D' ks lcc
          split at k6
          · rename_i fc fdd vs fs lc
            split at k6
            · rename_i ff ft hv
              have hD : D' = He.ga K d.cls := of_decide_eq_true k5
              subst hD
              exact ⟨_, ⟨oc, od, osl, n10, n11, n14, cc, cd, _, _, vs, ff, ft, rfl, q, k1, lcc, rfl, lc, rfl, hv, k6⟩, g.at_, g.ty⟩
            · cases k6
          · cases k6
        · cases k5
    | _ => cases c
/-! ### the Hook -/
abbrev AlY : Type := (He.AlT × Bool) × List FnZ
def frY (g : Addr → Option Obj) (n : Nat) : PySem.W.Frag := He.frT g (sysModules :: cStatics :: He.asD g n)
def obsY (n : Nat) (fa : List He.Fa) (fn : List He.DefD) (xs : List SuD) (ex : PySem.W.Frag → Bool) (g : Addr → Option Obj) : AlY := ((He.obsT fa fn [] (frY g n), ex (frY g n)), xs.map fun d => suW (frY g n) d.cls)
def valY (fn : List He.DefD) (xs : List SuD) (w : World) : AlY := ((He.valT fn [] w, true), xs.map SuD.val)
structure SaysY (fa : List He.Fa) (fn : List He.DefD) (xs : List SuD) (ex : PySem.W.Frag → Bool) (w : World) (K : PySem.W.Frag) : Prop where
  t : He.SaysT fa fn [] w K
  more : ex K = true
  sup : xs.map (fun d => suW K d.cls) = xs.map SuD.val
def hookY (n : Nat) (fa : List He.Fa) (fn : List He.DefD) (xs : List SuD) (ex : PySem.W.Frag → Bool) : PySem.W.Hook where
  α := AlY
  obs := fun s => obsY n fa fn xs ex s.heap.get?
  val := fun w => valY fn xs w
  says := fun w h => ∃ K : PySem.W.Frag, K.In h ∧ SaysY fa fn xs ex w K
  of := fun _ _ e => ⟨_, He.frT_in, congrArg (fun z : AlY => z.1.1) e, congrArg (fun z : AlY => z.1.2) e, congrArg (fun z : AlY => z.2) e⟩
  keeps := fun _ _ _ ⟨K, hK, c⟩ k => ⟨K, PySem.W.Frag.In.keeps hK k, c⟩
theorem obsY_eq {n : Nat} {fa : List He.Fa} {fn : List He.DefD} {xs : List SuD} {ex : PySem.W.Frag → Bool} {g : Addr → Option Obj} {s : Shared} (h : ∀ a, g a = s.heap.get? a) : obsY n fa fn xs ex g = (hookY n fa fn xs ex).obs s := by
  have e : g = s.heap.get? := funext h
  rw [e] <;> rfl
/-- all that is told of the i-th such class -/
theorem sud_at {P : Program} {K : PySem.W.Frag} {B : Str} {xs : List SuD} (hb : sudB P.main.file K B xs = true) (hs : xs.map (fun d => suW K d.cls) = xs.map SuD.val) (i : Nat) {d : SuD} (h : xs[i]? = some d := by rfl) :
    ClsG K (He.ga K d.cls) (He.ga K B) (ini K d.cls) d.flds ∧ ∃ fd, SuF P K d.qual d.st (He.ga K d.cls) (ini K d.cls) fd := by
  unfold sudB at hb
  rw [Bool.and_eq_true] at hb
  have h1 := List.all_eq_true.mp hb.2 d (List.mem_of_getElem? h)
  rw [Bool.and_eq_true] at h1
  have g := clsB_ok hb.1 h1.1
  refine ⟨g, suF_of g ?_ h1.2⟩
  have e2 : (xs.map fun d => suW K d.cls)[i]? = (xs.map SuD.val)[i]? := by rw [hs]
  rw [List.getElem?_map, List.getElem?_map, h] at e2
  exact Option.some.inj e2
theorem sysD_of {K : PySem.W.Frag} {h : Heap} (hb : bltB K = true) (X : K.In h) : SysD h := by
  unfold bltB at hb
  simp only [Bool.and_eq_true] at hb
  obtain ⟨es, n, sl, e⟩ := He.dictB_ok hb.2.2.2
  exact ⟨_, es, n, X _ _ e, rfl⟩
end EX2
set_option Elab.async false
set_option linter.all false
set_option maxRecDepth 100000
set_option maxHeartbeats 4000000
/-! the head's facts, with tables and defs at any path (property getters) -/
namespace EX2
open PySem PySem.Spec PyProof.Rows L2
/-- a def without defaults and cells, found by a path -/
structure PD where
  at_ : PySem.W.Frag → Addr
  name : Str
  qual : Str
  st : Stmt
def pdW (K : PySem.W.Frag) (d : PD) : He.FnW := match K.lookup (d.at_ K) with
  | some ⟨_, _, .func fd, _⟩ => some (fd.name, fd.qualname, fd.params, fd.body, fd.scope, fd.globals, fd.closure, fd.builtins)
  | _ => none
def PD.val (d : PD) : He.FnW := some (d.name, d.qual, defArgs d.st, .stmts (defBody d.st), defScope d.st, mainGlobals, [], builtinsNs)
def PD.ok (K : PySem.W.Frag) (d : PD) : Bool := PySem.W.keepIn K (.ref (d.at_ K)) && (match K.lookup (d.at_ K) with
  | some ⟨_, _, .func fd, _⟩ => PySem.W.codeIn K fd.code d.qual && (noneB fd.defaults && noneB fd.kwdefaults)
  | _ => false)
theorem PD.funD {K : PySem.W.Frag} {d : PD} (e : pdW K d = d.val) (c : d.ok K = true) : ∃ fd, FunD K d.name d.qual (defArgs d.st) (defBody d.st) (defScope d.st) [] [] (d.at_ K) fd := by
  unfold PD.ok at c
  rw [Bool.and_eq_true] at c
  obtain ⟨kp, c2⟩ := c
  unfold pdW at e
  cases q : K.lookup (d.at_ K) with
  | none =>
    rw [q] at c2
    cases c2
  | some o =>
    obtain ⟨oc, od, dt, osl⟩ := o
    rw [q] at c2 e
    cases dt with
    | func fd =>
      obtain ⟨n1, n2, n3, n4, n5, n6, n7, n8, n9, n10, n11, n12, n13, n14, n15⟩ := fd
      have e2 : (some (n1, n2, n3, n4, n5, n6, n7, n15) : He.FnW) = some (d.name, d.qual, defArgs d.st, .stmts (defBody d.st), defScope d.st, mainGlobals, [], builtinsNs) := e
      simp only [Option.some.injEq, Prod.mk.injEq] at e2
      obtain ⟨h1, h2, h3, h4, h5, h6, h7, h8⟩ := e2
      subst h1 h2 h3 h4 h5 h6 h7 h8
      have c3 : (PySem.W.codeIn K n13 d.qual && (noneB n8 && noneB n9)) = true := c2
      simp only [Bool.and_eq_true] at c3
      obtain ⟨k1, k2, k3⟩ := c3
      obtain rfl := noneB_ok k2
      exact ⟨_, ⟨oc, od, .none, n9, n10, n11, n12, n13, n14, osl, rfl, q, k1, .inl ⟨rfl, rfl⟩, .inl rfl⟩, kp⟩
    | _ => cases c2
/-- a property's object, its getter -/
def prA (K : PySem.W.Frag) (C f : Str) : Addr := He.ma K (He.ga K C) f
def prG (C f : Str) (K : PySem.W.Frag) : Addr := match K.lookup (prA K C f) with
  | some ⟨_, _, .fields vs, _⟩ => (match vs[0]? with
    | some (Value.ref g) => g
    | _ => 0)
  | _ => 0
def propB (K : PySem.W.Frag) (C f : Str) : Bool := He.eqO (PySem.W.findIn K (.ref (He.ga K C)) f) (some (some (.ref (prA K C f)))) && (He.eqO (PySem.W.specialIn K (.ref (prA K C f)) "__get__") (some (some (.builtin "property.__get__"))) &&
  (decide (PySem.W.takesIn K (.ref (prA K C f)) = some true) && (match PySem.W.recIn K (prA K C f) "property" with
    | some (.ref g :: _) => decide (g = prG C f K)
    | _ => false)))
theorem propB_ok {K : PySem.W.Frag} {C f : Str} (h : propB K C f = true) : PropOf K (He.ga K C) f (prA K C f) (prG C f K) := by
  unfold propB at h
  simp only [Bool.and_eq_true, decide_eq_true_eq] at h
  obtain ⟨h1, h2, h3, h4⟩ := h
  refine ⟨He.eqO_ok h1, He.eqO_ok h2, h3, ?_⟩
  split at h4
  · rename_i g rest e
    have eg : g = prG C f K := of_decide_eq_true h4
    exact ⟨rest, by rw [e, eg]⟩
  · cases h4
/-! ### the Hook -/
abbrev AlZ : Type := ((He.AlT × Bool) × List FnZ) × List He.FnW
def obsZ (n : Nat) (fa : List He.Fa) (fn : List He.DefD) (ts : List He.Tab) (xs : List SuD) (ps : List PD) (ex : PySem.W.Frag → Bool) (g : Addr → Option Obj) : AlZ :=
  (((He.obsT fa fn ts (frY g n), ex (frY g n) && ps.all fun d => d.ok (frY g n)), xs.map fun d => suW (frY g n) d.cls), ps.map fun d => pdW (frY g n) d)
def valZ (fn : List He.DefD) (ts : List He.Tab) (xs : List SuD) (ps : List PD) (w : World) : AlZ := (((He.valT fn ts w, true), xs.map SuD.val), ps.map PD.val)
structure SaysZ (fa : List He.Fa) (fn : List He.DefD) (ts : List He.Tab) (xs : List SuD) (ps : List PD) (ex : PySem.W.Frag → Bool) (w : World) (K : PySem.W.Frag) : Prop where
  t : He.SaysT fa fn ts w K
  more : ex K = true
  pok : (ps.all fun d => d.ok K) = true
  sup : xs.map (fun d => suW K d.cls) = xs.map SuD.val
  pth : ps.map (fun d => pdW K d) = ps.map PD.val
theorem saysZ_of {fa : List He.Fa} {fn : List He.DefD} {ts : List He.Tab} {xs : List SuD} {ps : List PD} {ex : PySem.W.Frag → Bool} {w : World} {n : Nat} {g : Addr → Option Obj} (e : obsZ n fa fn ts xs ps ex g = valZ fn ts xs ps w) : SaysZ fa fn ts xs ps ex w (frY g n) := by
  have e1 : (ex (frY g n) && ps.all fun d => d.ok (frY g n)) = true := congrArg (fun z : AlZ => z.1.1.2) e
  rw [Bool.and_eq_true] at e1
  exact ⟨congrArg (fun z : AlZ => z.1.1.1) e, e1.1, e1.2, congrArg (fun z : AlZ => z.1.2) e, congrArg (fun z : AlZ => z.2) e⟩
def hookZ (n : Nat) (fa : List He.Fa) (fn : List He.DefD) (ts : List He.Tab) (xs : List SuD) (ps : List PD) (ex : PySem.W.Frag → Bool) : PySem.W.Hook where
  α := AlZ
  obs := fun s => obsZ n fa fn ts xs ps ex s.heap.get?
  val := fun w => valZ fn ts xs ps w
  says := fun w h => ∃ K : PySem.W.Frag, K.In h ∧ SaysZ fa fn ts xs ps ex w K
  of := fun _ _ e => ⟨_, He.frT_in, saysZ_of e⟩
  keeps := fun _ _ _ ⟨K, hK, c⟩ k => ⟨K, PySem.W.Frag.In.keeps hK k, c⟩
theorem obsZ_eq {n : Nat} {fa : List He.Fa} {fn : List He.DefD} {ts : List He.Tab} {xs : List SuD} {ps : List PD} {ex : PySem.W.Frag → Bool} {g : Addr → Option Obj} {s : Shared} (h : ∀ a, g a = s.heap.get? a) : obsZ n fa fn ts xs ps ex g = (hookZ n fa fn ts xs ps ex).obs s := by
  have e : g = s.heap.get? := funext h
  rw [e] <;> rfl
theorem SaysZ.path {fa : List He.Fa} {fn : List He.DefD} {ts : List He.Tab} {xs : List SuD} {ps : List PD} {ex : PySem.W.Frag → Bool} {w : World} {K : PySem.W.Frag} (c : SaysZ fa fn ts xs ps ex w K) (i : Nat) {d : PD} (h : ps[i]? = some d := by rfl) :
    ∃ fd, FunD K d.name d.qual (defArgs d.st) (defBody d.st) (defScope d.st) [] [] (d.at_ K) fd := by
  have e2 : (ps.map fun d => pdW K d)[i]? = (ps.map PD.val)[i]? := by rw [c.pth]
  rw [List.getElem?_map, List.getElem?_map, h] at e2
  exact PD.funD (Option.some.inj e2) (List.all_eq_true.mp c.pok d (List.mem_of_getElem? h))
/-! ### a table of texts with text keys, read for every text -/
def tabOfB (K : PySem.W.Frag) (a : Addr) (kvs : List (Str × Str)) : Bool := match K.lookup a with
  | some ⟨.type c, none, .dict es _, sl⟩ => decide (c = "dict") && (sl.isEmpty && decide (es.toList.map (fun e => (match e.key, e.val with | .str x _, .str y _ => some (x, y) | _, _ => none)) = kvs.map some))
  | _ => false
theorem tab_find {z : Str} : ∀ {l : List DictEntry} {kvs : List (Str × Str)}, l.map (fun e => (match e.key, e.val with | .str x _, .str y _ => some (x, y) | _, _ => none)) = kvs.map some →
    (∃ e y t, l.find? (·.key.isStr z) = some e ∧ kvs.lookup z = some y ∧ e.val = .str y t) ∨ (l.find? (·.key.isStr z) = none ∧ kvs.lookup z = none ∧ l.any (·.refKey) = false)
  | [], [], _ => .inr ⟨rfl, rfl, rfl⟩
  | [], _ :: _, h => by cases h
  | _ :: _, [], h => by cases h
  | e :: l, (x, y) :: kvs, h => by
    obtain ⟨h1, h2⟩ := List.cons.inj h
    obtain ⟨hash, key, val⟩ := e
    dsimp only at h1
    split at h1
    · rename_i x' t1 y' t2
      obtain ⟨rfl, rfl⟩ := Prod.mk.inj (Option.some.inj h1)
      by_cases hz : x' = z
      · subst hz
        refine .inl ⟨⟨hash, .str x' t1, .str y' t2⟩, y', t2, ?_, by simp [List.lookup], rfl⟩
        simp [List.find?, Value.isStr]
      · have k1 : (⟨hash, .str x' t1, .str y' t2⟩ : DictEntry).key.isStr z = false := by simp [Value.isStr, hz]
        have k2 : (z == x') = false := by simp [Ne.symm hz]
        rcases tab_find (z := z) h2 with ⟨e, y, t, a, b, c⟩ | ⟨a, b, c⟩
        · refine .inl ⟨e, y, t, ?_, ?_, c⟩
          · rw [List.find?_cons, k1]
            exact a
          · rw [List.lookup_cons, k2]
            exact b
        · refine .inr ⟨?_, ?_, ?_⟩
          · rw [List.find?_cons, k1]
            exact a
          · rw [List.lookup_cons, k2]
            exact b
          · rw [List.any_cons, c]
            rfl
    · cases h1
theorem tab_look {K : PySem.W.Frag} {a : Addr} {kvs : List (Str × Str)} (h : tabOfB K a kvs = true) (z : Str) : (∃ y t, kvs.lookup z = some y ∧ PySem.W.nsIn K a z = some (some (.str y t))) ∨ (kvs.lookup z = none ∧ PySem.W.nsIn K a z = some none) := by
  unfold tabOfB at h
  split at h
  · rename_i c es n sl e
    simp only [Bool.and_eq_true, decide_eq_true_eq] at h
    unfold PySem.W.nsIn
    rw [e]
    dsimp only
    rcases tab_find (z := z) h.2.2 with ⟨en, y, t, q1, q2, q3⟩ | ⟨q1, q2, q3⟩
    · rw [q1]
      exact .inl ⟨y, t, q2, congrArg (fun v => some (some v)) q3⟩
    · rw [q1]
      exact .inr ⟨q2, by show (if (es.toList.any fun x => x.refKey) = true then none else some none) = some none; rw [q3]; rfl⟩
  · cases h
end EX2
set_option Elab.async false
set_option linter.all false
set_option maxRecDepth 100000
set_option maxHeartbeats 0
namespace K07
open PySem PySem.Spec PyProof.Rows L2
abbrev RW : PySem.W.OpenLaw := PySem.Challenge.rw_lateclasses_k07_whole_least_tables
def top (i : Nat) : Stmt := PySem.Challenge.pw_lateclasses_k07_whole_least_tables.main.body.getD i (.Pass ⟨0, 0, 0, 0⟩)
def dfn (x : Str) (i : Nat) : He.DefD := ⟨(x, none), x, x, defArgs (top i), defBody (top i), defScope (top i), [], []⟩
def mth (c m q : Str) (i j : Nat) : He.DefD := ⟨(c, some m), m, q, defArgs (inClass (top i) j), defBody (inClass (top i) j), defScope (inClass (top i) j), [], []⟩
def fn : List He.DefD := [dfn "is_integer" 6, dfn "is_in_range" 7, dfn "is_name" 8, dfn "element_of" 9, dfn "is_type" 10, dfn "is_sequence" 11, dfn "fits" 17, dfn "is_instruction" 18, dfn "drawers_in" 19, dfn "targets_in" 20, dfn "is_code" 21, dfn "is_size" 22, dfn "begin_row" 25, dfn "joined_sets" 26, dfn "joined_rows" 27, dfn "with_set" 28, dfn "elements_in" 29, dfn "set_made" 30, dfn "leads" 31, dfn "least_rows" 32, dfn "check_both" 33, dfn "least_table" 34, dfn "_law_source" 36, dfn "_law_draw" 37, dfn "_law_pick" 38, dfn "_law_type" 39, dfn "_law_call" 40, dfn "_law_made" 41, dfn "_law_ready" 42, dfn "_law_method" 43, dfn "_law_begin" 44, dfn "_law_set_of" 45, dfn "_law_next" 46, dfn "_law_joined" 47, dfn "_law_least" 48, dfn "_law_shown" 49, dfn "_law_refused" 50, dfn "_law_errors_right" 51, dfn "law" 52,
  mth "Method" "__init__" "Method.__init__" 23 0, mth "Method" "parts" "Method.parts" 23 6, mth "Method" "__eq__" "Method.__eq__" 23 7]
def fns : List Str := (["is_integer", "is_in_range", "is_name", "element_of", "is_type", "is_sequence", "fits", "is_instruction", "drawers_in", "targets_in", "is_code", "is_size", "begin_row", "joined_sets", "joined_rows", "with_set", "elements_in", "set_made", "leads", "least_rows"] : List Str) ++ (["check_both", "least_table", "_law_source", "_law_draw", "_law_pick", "_law_type", "_law_call", "_law_made", "_law_ready", "_law_method", "_law_begin", "_law_set_of", "_law_next", "_law_joined", "_law_least", "_law_shown", "_law_refused", "_law_errors_right"] : List Str)
def fa : List He.Fa := [.str "LETTERS" "abcdefghijklmnopqrstuvwxyz", .int "MOST_CODE" 40, .int "MOST_SIZE" 10, .int "MOST_PARAMS" 4, .glo "FORMS", .glo "Method", .glo "law", .mkr "Method", .cls "Method", .noat "Method" "own_name", .noat "Method" "own_params", .noat "Method" "own_result", .noat "Method" "own_size", .noat "Method" "own_code"] ++
  (fns.map He.Fa.glo) ++ [.free "isinstance", .free "len", .free "all", .free "any", .free "int", .free "bool", .free "str", .free "list", .free "tuple", .free "zip", .free "range", .free "max", .free "min", .free "repr", .free "super", .free "set", .free "sorted", .glo "InvalidName", .glo "InvalidMethod", .glo "ClassError", .meth "Method" "parts", .meth "Method" "__eq__"]
def forms : List (Str × Str) := [("new", "rc"), ("array", "rcn"), ("null", "r"), ("move", "rr"), ("get", "rrcft"), ("put", "rcftr"), ("call", "rrcfytx"), ("ask", "rrcfytx"), ("cast", "rrc"), ("load", "rrn"), ("store", "rnr"), ("jump", "j"), ("ifnull", "rj"), ("ifis", "rcj"), ("choose", "j"), ("tell", "r"), ("return", "r")]
def ts : List He.Tab := [(fun K => He.ga K "FORMS", forms.map (·.1))]
def pd (f q : Str) (j : Nat) : EX2.PD := ⟨EX2.prG "Method" f, f, q, inClass (top 23) j⟩
def pds : List EX2.PD := [pd "name" "Method.name" 1, pd "params" "Method.params" 2, pd "result" "Method.result" 3, pd "size" "Method.size" 4, pd "code" "Method.code" 5]
def sd (c q : Str) (i : Nat) (fl : List Str) : EX2.SuD := ⟨c, q, inClass (top i) 0, fl⟩
def xs : List EX2.SuD := [sd "InvalidName" "InvalidName.__init__" 2 ["given"], sd "InvalidMethod" "InvalidMethod.__init__" 3 ["given"]]
/-- these are no instances of the class -/
def kitsB (K : PySem.W.Frag) : Bool := (["NoneType", "str", "tuple", "int"] : List String).all fun t => decide (PySem.W.kitOne K (.type t) (.ref (He.ga K "Method")) = some false)
def insB (K : PySem.W.Frag) : Bool := kitsB K && He.eqO (PySem.W.findIn K (.ref (He.ga K "Method")) "__class__") (some (some (.builtin "object.__class__"))) && (decide (PySem.W.mroIn K (He.ga K "Method") (.type "object") = some true) && decide (PySem.W.kitOne K (.type "list") (.ref (He.ga K "Method")) = some false))
/-- the table of the def's code object is not of K -/
def tabB (K : PySem.W.Frag) : Bool := match PySem.W.tabIn K "_law_errors_right" with
  | some (_, T) => (K.lookup T).isNone
  | none => false
def ex (K : PySem.W.Frag) : Bool := tabB K && (EX2.tabOfB K (He.ga K "FORMS") forms && ((["name", "params", "result", "size", "code"] : List Str).all (EX2.propB K "Method") && (EX2.sudB PySem.Challenge.pw_lateclasses_k07_whole_least_tables.main.file K "ClassError" xs &&
  (decide (((["ClassError", "InvalidName", "InvalidMethod"] : List Str).map (He.ga K)).Nodup) && ((PySem.W.clsIn K (He.ga K "ClassError")).isSome && PySem.W.typeIn K (.ref (He.ga K "ClassError")) == some (.type "type"))) && insB K)))
abbrev R : PySem.W.OpenRow := PySem.W.OpenLaw.row RW
abbrev hk : PySem.W.Hook := EX2.hookZ 5 fa fn ts xs pds ex
def ob (s : PySem.W.SharedT) : EX2.AlZ := EX2.obsZ 5 fa fn ts xs pds ex (HandSHeadRun.getT s)
theorem ob_eq (s : PySem.W.SharedT) : ob s = hk.obs s.abs := EX2.obsZ_eq (HandSHeadRun.getT_eq s)
def loose : List PySem.Str := ([("ClassError" : PySem.Str), ("InvalidName" : PySem.Str), ("InvalidMethod" : PySem.Str), ("LETTERS" : PySem.Str), ("FORMS" : PySem.Str), ("MOST_CODE" : PySem.Str), ("MOST_SIZE" : PySem.Str), ("MOST_PARAMS" : PySem.Str), ("Method" : PySem.Str)] : List PySem.Str) ++ fns.filter fun (x : PySem.Str) => !(x == ("_law_errors_right" : PySem.Str))
theorem runF (w : World) : HandSHeadRun.RunEq R (PySem.W.view R.prog [51, 52]) hk ob 9000 loose (w.withFollow "special-get-raises" false) := by
  intro os
  kernel_rfl
theorem runT (w : World) : HandSHeadRun.RunEq R (PySem.W.view R.prog [51, 52]) hk ob 9000 loose (w.withFollow "special-get-raises" true) := by
  intro os
  kernel_rfl
theorem run (w : World) : HandSHeadRun.RunEq R (PySem.W.view R.prog [51, 52]) hk ob 9000 loose w := PySem.W.byRow2 "special-get-raises" runF runT w
end K07
set_option Elab.async false
set_option linter.all false
set_option maxRecDepth 100000
set_option maxHeartbeats 1000000
/-! zip of a text and a tuple -/
namespace RZ
open PySem
open PySem.Sem (wp)
section
variable {prog : Program} {w : World} {A : Around} {E : Value → Shared → Prop} {s : Shared}
theorem zipS_next_item {z TI TO i1 i2 l1 l2 : Addr} {k1 k2 c0 : Nat} {tx : Str} {tt : Tok} {ys : Array Value} {y a b : Value} {Q : Value → Shared → Prop} (D : ZipApart z TI TO i1 i2 l1 l2)
    (hz : IsZip s.heap z TI TO .none) (hTI : IsPair s.heap TI (.ref i1) (.ref i2)) (hTO : IsPair s.heap TO a b)
    (h1 : s.heap.IsStrIter i1 "str_ascii_iterator" tx tt k1) (h2 : s.heap.IsTupleIter i2 l2 k2) (hl2 : s.heap.IsTuple l2 ys) (hx : tx.cps[k1]? = some c0) (hy : ys[k2]? = some y)
    (hQ : ∀ h', IsZip h' z TI TO (rawInt s.heap.objs.size) → IsPair h' TO (.str ⟨#[c0]⟩ s.toks) y → h'.IsStrIter i1 "str_ascii_iterator" tx tt (k1 + 1) → h'.IsTupleIter i2 l2 (k2 + 1) → IsPair h' s.heap.objs.size (.str ⟨#[c0]⟩ s.toks) y → h'.objs.size = s.heap.objs.size + 1 →
      (∀ c o, c ≠ z → c ≠ TO → c ≠ i1 → c ≠ i2 → s.heap.get? c = some o → h'.get? c = some o) → Q (.ref s.heap.objs.size) { s with heap := h', toks := s.toks + 1 }) :
    wpAny (model prog w) A (Builtin.«zip.__next__» ⟨[.ref z], []⟩) (fun fin s' => ∃ v, fin = .done (.ret v) ∧ Q v s') E s := by
  show wpAny _ _ (field (.ref z) 2 >>= _) _ _ _
  refine wpAny_bind (wpAny_field hz rfl (x := .bool false) rfl ?_)
  show wpAny _ _ (field (.ref z) 3 >>= _) _ _ _
  refine wpAny_bind (wpAny_field hz rfl (x := .ref TI) rfl ?_)
  refine wpAny_bind (wpAny_seqItems hTI rfl ?_)
  show wpAny _ _ (Builtin.SmallTypes.ownedTupleIsFree (.ref z) >>= _) _ _ _
  refine wpAny_bind ?_
  unfold Builtin.SmallTypes.ownedTupleIsFree
  refine wpAny_bind (wpAny_field hz rfl (x := .none) rfl (wpAny_pure ?_))
  simp only [if_true]
  refine wpAny_bind (wpAny_rule ?_)
  refine wpAny_bind (wpAny_field hz rfl (x := .ref TO) rfl ?_)
  refine wpAny_bind (wpAny_setField_rec hz (by simp) fun h₁ hz₁ hs₁ => ?_)
  replace hz₁ : IsZip h₁ z TI TO .ellipsis := hz₁
  refine wpAny_bind ?_
  simp only [List.zipIdx_cons, List.zipIdx_nil, List.forIn_cons, List.forIn_nil]

  refine wpAny_bind (wpAny_bind (wpAny_onRaise ?_))
  show wpAny _ _ (Builtin.SmallTypes.nextOf (.ref i1) >>= _) _ _ _
  refine wpAny_bind (wpAny_nextOf_ascii_item (h1.extBut hs₁.extBut D.i1z) hx fun h₂ h1₂ hs₂ => wpAny_pure ?_)
  have hTO₂ : IsPair h₂ TO a b := hs₂.extBut _ _ D.TOi1 (hs₁.extBut _ _ D.TOz hTO)
  refine wpAny_bind (wpAny_seqItems hTO₂ rfl ?_)
  refine wpAny_bind (wpAny_updateSeq_pair hTO₂ fun h₃ hTO₃ hs₃ => ?_)
  replace hTO₃ : IsPair h₃ TO (.str ⟨#[c0]⟩ s.toks) b := hTO₃
  refine wpAny_bind (wpAny_letGo (wpAny_pure ?_))

  refine wpAny_bind (wpAny_bind (wpAny_onRaise ?_))
  show wpAny _ _ (Builtin.SmallTypes.nextOf (.ref i2) >>= _) _ _ _
  refine wpAny_bind (nextOf_tuple_item (((h2.extBut hs₁.extBut D.i2z).extBut hs₂.extBut D.i12.symm).extBut hs₃.extBut D.TOi2.symm)
    (((hl2.extBut hs₁.extBut D.l2z).extBut hs₂.extBut D.l2i1).extBut hs₃.extBut D.l2TO) hy fun h₄ h2₄ hs₄ => wpAny_pure ?_)
  have hTO₄ : IsPair h₄ TO (.str ⟨#[c0]⟩ s.toks) b := hs₄.extBut _ _ D.TOi2 hTO₃
  refine wpAny_bind (wpAny_seqItems hTO₄ rfl ?_)
  refine wpAny_bind (wpAny_updateSeq_pair hTO₄ fun h₅ hTO₅ hs₅ => ?_)
  replace hTO₅ : IsPair h₅ TO (.str ⟨#[c0]⟩ s.toks) y := hTO₅
  refine wpAny_bind (wpAny_letGo (wpAny_pure (wpAny_pure ?_)))

  refine wpAny_bind (wpAny_seqItems hTO₅ rfl ?_)
  refine wpAny_bind (wpAny_newTuple ?_)
  have hsz : h₅.objs.size = s.heap.objs.size := by rw [hs₅.1, hs₄.1, hs₃.1, hs₂.1, hs₁.1]
  have hz₅ : IsZip h₅ z TI TO .ellipsis := hs₅.extBut _ _ D.TOz.symm (hs₄.extBut _ _ D.i2z.symm (hs₃.extBut _ _ D.TOz.symm (hs₂.extBut _ _ D.i1z.symm hz₁)))
  have hk₅ : ∀ c o, c ≠ z → c ≠ TO → c ≠ i1 → c ≠ i2 → s.heap.get? c = some o → h₅.get? c = some o := fun c o c1 c2 c3 c4 e =>
    hs₅.extBut _ _ c2 (hs₄.extBut _ _ c4 (hs₃.extBut _ _ c2 (hs₂.extBut _ _ c3 (hs₁.extBut _ _ c1 e))))
  have h1₅ : h₅.IsStrIter i1 "str_ascii_iterator" tx tt (k1 + 1) := ((h1₂.extBut hs₃.extBut D.TOi1.symm).extBut hs₄.extBut D.i12).extBut hs₅.extBut D.TOi1.symm
  have h2₅ : h₅.IsTupleIter i2 l2 (k2 + 1) := h2₄.extBut hs₅.extBut D.TOi2.symm
  have hzlt : z < h₅.objs.size := Heap.lt_size hz₅
  have hTOlt : TO < h₅.objs.size := Heap.lt_size hTO₅
  have hi1lt : i1 < h₅.objs.size := by obtain ⟨_, e, _⟩ := h1₅; exact Heap.lt_size e
  have hi2lt : i2 < h₅.objs.size := by obtain ⟨_, e, _⟩ := h2₅; exact Heap.lt_size e
  show wpAny _ _ (Builtin.SmallTypes.ownedTupleHandOut (.ref z) (.ref h₅.objs.size) >>= _) _ _ _
  refine wpAny_bind ?_
  unfold Builtin.SmallTypes.ownedTupleHandOut
  have hz₆ : IsZip (h₅.push { cls := .type "tuple", data := .seq #[.str ⟨#[c0]⟩ s.toks, y] }) z TI TO .ellipsis := Heap.get?_push_of_some _ hz₅
  refine wpAny_bind (wpAny_setField_rec hz₆ (by simp) fun h₇ hz₇ hs₇ => ?_)
  replace hz₇ : IsZip h₇ z TI TO (rawInt h₅.objs.size) := hz₇
  refine wpAny_setField_rec hz₇ (by simp) fun h₈ hz₈ hs₈ => ?_
  replace hz₈ : IsZip h₈ z TI TO (rawInt h₅.objs.size) := hz₈
  have up : ∀ c o, c ≠ z → h₅.get? c = some o → h₈.get? c = some o := fun c o c1 e => hs₈.extBut _ _ c1 (hs₇.extBut _ _ c1 (Heap.get?_push_of_some _ e))
  have hT₈ : IsPair h₈ h₅.objs.size (.str ⟨#[c0]⟩ s.toks) y := hs₈.extBut _ _ (Nat.ne_of_gt hzlt) (hs₇.extBut _ _ (Nat.ne_of_gt hzlt) (Heap.get?_push_size _ rfl))
  have hz8 : h₈.objs.size = h₅.objs.size + 1 := by rw [hs₈.1, hs₇.1, Heap.size_push]
  rw [hsz] at hz₈ hT₈ hz8
  refine wpAny_pure ⟨_, rfl, ?_⟩
  show Q (.ref h₅.objs.size) _
  rw [hsz]
  exact hQ h₈ hz₈ (up _ _ D.TOz hTO₅) (let ⟨o, ho, r⟩ := h1₅; ⟨o, up _ o D.i1z ho, r⟩) (h2₅.at fun o e => up _ o D.i2z e) hT₈ hz8 fun c o c1 c2 c3 c4 e => up c o c1 (hk₅ c o c1 c2 c3 c4 e)

theorem zipS_next_end {z TI TO i1 i2 l1 l2 : Addr} {k1 k2 : Nat} {tx : Str} {tt : Tok} {ys : Array Value} {a b : Value} {Q : Fin → Shared → Prop} (hh : A.handled = none) (D : ZipApart z TI TO i1 i2 l1 l2)
    (hz : IsZip s.heap z TI TO .none) (hTI : IsPair s.heap TI (.ref i1) (.ref i2)) (hTO : IsPair s.heap TO a b)
    (h1 : s.heap.IsStrIter i1 "str_ascii_iterator" tx tt k1) (h2 : s.heap.IsTupleIter i2 l2 k2) (hl2 : s.heap.IsTuple l2 ys) (hend : tx.cps[k1]? = none ∨ ys[k2]? = none)
    (hE : ∀ h' e tk, (∀ c o, c ≠ z → c ≠ TO → c ≠ i1 → c ≠ i2 → s.heap.get? c = some o → h'.get? c = some o) → (∃ o, h'.get? e = some o ∧ o.cls = .type "StopIteration") → E (.ref e) { s with heap := h', toks := tk }) :
    wpAny (model prog w) A (Builtin.«zip.__next__» ⟨[.ref z], []⟩) Q E s := by
  show wpAny _ _ (field (.ref z) 2 >>= _) _ _ _
  refine wpAny_bind (wpAny_field hz rfl (x := .bool false) rfl ?_)
  show wpAny _ _ (field (.ref z) 3 >>= _) _ _ _
  refine wpAny_bind (wpAny_field hz rfl (x := .ref TI) rfl ?_)
  refine wpAny_bind (wpAny_seqItems hTI rfl ?_)
  show wpAny _ _ (Builtin.SmallTypes.ownedTupleIsFree (.ref z) >>= _) _ _ _
  refine wpAny_bind ?_
  unfold Builtin.SmallTypes.ownedTupleIsFree
  refine wpAny_bind (wpAny_field hz rfl (x := .none) rfl (wpAny_pure ?_))
  simp only [if_true]
  refine wpAny_bind (wpAny_rule ?_)
  refine wpAny_bind (wpAny_field hz rfl (x := .ref TO) rfl ?_)
  refine wpAny_bind (wpAny_setField_rec hz (by simp) fun h₁ hz₁ hs₁ => ?_)
  replace hz₁ : IsZip h₁ z TI TO .ellipsis := hz₁
  refine wpAny_bind ?_
  simp only [List.zipIdx_cons, List.zipIdx_nil, List.forIn_cons, List.forIn_nil]
  refine wpAny_bind (wpAny_bind (wpAny_onRaise ?_))
  show wpAny _ _ (Builtin.SmallTypes.nextOf (.ref i1) >>= _) _ _ _
  cases hx : tx.cps[k1]? with
  | none =>
    refine wpAny_bind (wpAny_nextOf_ascii_end hh (h1.extBut hs₁.extBut D.i1z) hx fun h₂ e hs₂ he => ?_)
    obtain ⟨oe, hoe, hce⟩ := he
    have hz₂ : IsZip h₂ z TI TO .ellipsis := hs₂ _ _ D.i1z.symm hz₁
    have hez : e ≠ z := fun x => by subst x; rw [hz₂] at hoe; cases hoe; simp at hce
    refine wpAny_setField_rec hz₂ (by simp) fun h₃ _ hs₃ => hE h₃ e _ (fun c o c1 _ c3 _ x => hs₃.extBut _ _ c1 (hs₂ _ _ c3 (hs₁.extBut _ _ c1 x))) ⟨oe, hs₃.extBut _ _ hez hoe, hce⟩
  | some c0 =>
    have hy : ys[k2]? = none := by rcases hend with h | h; rw [hx] at h; cases h; exact h
    refine wpAny_bind (wpAny_nextOf_ascii_item (h1.extBut hs₁.extBut D.i1z) hx fun h₂ h1₂ hs₂ => wpAny_pure ?_)
    have hTO₂ : IsPair h₂ TO a b := hs₂.extBut _ _ D.TOi1 (hs₁.extBut _ _ D.TOz hTO)
    refine wpAny_bind (wpAny_seqItems hTO₂ rfl ?_)
    refine wpAny_bind (wpAny_updateSeq_pair hTO₂ fun h₃ hTO₃ hs₃ => ?_)
    refine wpAny_bind (wpAny_letGo (wpAny_pure ?_))
    refine wpAny_bind (wpAny_bind (wpAny_onRaise ?_))
    show wpAny _ _ (Builtin.SmallTypes.nextOf (.ref i2) >>= _) _ _ _
    refine wpAny_bind (nextOf_tuple_end hh (((h2.extBut hs₁.extBut D.i2z).extBut hs₂.extBut D.i12.symm).extBut hs₃.extBut D.TOi2.symm)
      (((hl2.extBut hs₁.extBut D.l2z).extBut hs₂.extBut D.l2i1).extBut hs₃.extBut D.l2TO) hy fun h₄ e hs₄ he => ?_)
    obtain ⟨oe, hoe, hce⟩ := he
    have hz₄ : IsZip h₄ z TI TO .ellipsis := hs₄ _ _ D.i2z.symm (hs₃.extBut _ _ D.TOz.symm (hs₂.extBut _ _ D.i1z.symm hz₁))
    have hez : e ≠ z := fun x => by subst x; rw [hz₄] at hoe; cases hoe; simp at hce
    refine wpAny_setField_rec hz₄ (by simp) fun h₅ _ hs₅ => hE h₅ e _ (fun c o c1 c2 c3 c4 x => hs₅.extBut _ _ c1 (hs₄ _ _ c4 (hs₃.extBut _ _ c2 (hs₂.extBut _ _ c3 (hs₁.extBut _ _ c1 x))))) ⟨oe, hs₅.extBut _ _ hez hoe, hce⟩

theorem pyNext_zipS_item {z TI TO i1 i2 l1 l2 : Addr} {k1 k2 c0 : Nat} {tx : Str} {tt : Tok} {ys : Array Value} {y a b : Value} {Q : Option Value → Shared → Prop} (D : ZipApart z TI TO i1 i2 l1 l2)
    (hz : IsZip s.heap z TI TO .none) (hTI : IsPair s.heap TI (.ref i1) (.ref i2)) (hTO : IsPair s.heap TO a b)
    (h1 : s.heap.IsStrIter i1 "str_ascii_iterator" tx tt k1) (h2 : s.heap.IsTupleIter i2 l2 k2) (hl2 : s.heap.IsTuple l2 ys) (hx : tx.cps[k1]? = some c0) (hy : ys[k2]? = some y)
    (hQ : ∀ h', IsZip h' z TI TO (rawInt s.heap.objs.size) → IsPair h' TO (.str ⟨#[c0]⟩ s.toks) y → h'.IsStrIter i1 "str_ascii_iterator" tx tt (k1 + 1) → h'.IsTupleIter i2 l2 (k2 + 1) → IsPair h' s.heap.objs.size (.str ⟨#[c0]⟩ s.toks) y → h'.objs.size = s.heap.objs.size + 1 →
      (∀ c o, c ≠ z → c ≠ TO → c ≠ i1 → c ≠ i2 → s.heap.get? c = some o → h'.get? c = some o) → Q (some (.ref s.heap.objs.size)) { s with heap := h', toks := s.toks + 1 }) :
    wpAny (model prog w) A (pyNext (.ref z)) Q E s := by
  have hT : s.TypeIs (.ref z) "zip" := ⟨_, hz, rfl⟩
  unfold pyNext
  exact wpAny_bind (wpAny_attempt (wpAny_callSpecial?_slot (name := Str.ofString "__next__") hT F.slot_zip_next
    (wpAny_call_entry F.slot_zip_next hT F.entry_zip_next
      (zipS_next_item D hz hTI hTO h1 h2 hl2 hx hy fun h' a1 a2 a3 a4 a5 a6 a7 => wpAny_pure (hQ h' a1 a2 a3 a4 a5 a6 a7)) (F.args_zip_next_1 _))))

theorem pyNext_zipS_end {z TI TO i1 i2 l1 l2 : Addr} {k1 k2 : Nat} {tx : Str} {tt : Tok} {ys : Array Value} {a b : Value} {Q : Option Value → Shared → Prop} (hh : A.handled = none) (D : ZipApart z TI TO i1 i2 l1 l2)
    (hz : IsZip s.heap z TI TO .none) (hTI : IsPair s.heap TI (.ref i1) (.ref i2)) (hTO : IsPair s.heap TO a b)
    (h1 : s.heap.IsStrIter i1 "str_ascii_iterator" tx tt k1) (h2 : s.heap.IsTupleIter i2 l2 k2) (hl2 : s.heap.IsTuple l2 ys) (hend : tx.cps[k1]? = none ∨ ys[k2]? = none)
    (hQ : ∀ h' tk, (∀ c o, c ≠ z → c ≠ TO → c ≠ i1 → c ≠ i2 → s.heap.get? c = some o → h'.get? c = some o) → Q none { s with heap := h', toks := tk }) : wpAny (model prog w) A (pyNext (.ref z)) Q E s := by
  have hT : s.TypeIs (.ref z) "zip" := ⟨_, hz, rfl⟩
  unfold pyNext
  refine wpAny_bind (wpAny_attempt (wpAny_callSpecial?_slot (name := Str.ofString "__next__") hT F.slot_zip_next
    (wpAny_call_entry F.slot_zip_next hT F.entry_zip_next (zipS_next_end hh D hz hTI hTO h1 h2 hl2 hend fun h' e tk hk he => ?_) (F.args_zip_next_1 _))))
  obtain ⟨o, ho, hc⟩ := he
  refine wpAny_bind (wpAny_isInstance (T := "StopIteration") (b := true) ⟨o, ho, hc⟩ isSubtype_stop ?_)
  exact wpAny_pure (hQ _ _ hk)
end


abbrev zipSH1 (h : Heap) (tx : Str) (tt : Tok) : Heap := h.push { cls := .type "str_ascii_iterator", data := .fields #[.str tx tt, .int 0 0] }
abbrev zipSH2 (h : Heap) (tx : Str) (tt : Tok) (l2 : Addr) : Heap := (zipSH1 h tx tt).push { cls := .type "tuple_iterator", data := .fields #[.ref l2, .int 0 0] }
abbrev zipSH3 (h : Heap) (tx : Str) (tt : Tok) (l2 : Addr) : Heap := (zipSH2 h tx tt l2).push { cls := .type "tuple", data := .seq #[.ref h.objs.size, .ref (zipSH1 h tx tt).objs.size] }
abbrev zipSH4 (h : Heap) (tx : Str) (tt : Tok) (l2 : Addr) : Heap := (zipSH3 h tx tt l2).push { cls := .type "tuple", data := .seq #[.none, .none] }
abbrev zipSH5 (h : Heap) (tx : Str) (tt : Tok) (l2 : Addr) : Heap := (zipSH4 h tx tt l2).push { cls := .type "zip", data := .fields #[.none, .bool false, .bool false, .ref (zipSH2 h tx tt l2).objs.size, .ref (zipSH3 h tx tt l2).objs.size] }
theorem meets_zipS_new (tx : Str) (tt : Tok) (l2 : Addr) (ys : Array Value) (ha : tx.cps.all (· < 128) = true) :
    Meets (Builtin.«zip.__new__» ⟨[.type "zip", .str tx tt, .ref l2], []⟩) (fun _ R s => s.heap.IsTuple l2 ys ∧
      R (.ok (.ret (.ref (zipSH4 s.heap tx tt l2).objs.size))) { s with heap := zipSH5 s.heap tx tt l2 }) :=
  .of_wp fun prog w A R s h => by
    obtain ⟨hp, g, d, tk, os⟩ := s; obtain ⟨hl2, h⟩ := h
    have hsub := sub_zip
    have hL2 : Heap.IsTuple (Shared.heap ⟨hp.push { cls := .type "str_ascii_iterator", data := .fields #[.str tx tt, .int 0 0] }, g, d, tk, os⟩) l2 ys := Heap.IsTuple.push hl2 _
    wp_walk using wpAny_pyIter_ascii ha, wpAny_pyIter_tuple hL2
    exact ⟨_, rfl, h⟩
section
variable {prog : Program} {w : World} {A : Around} {E : Value → Shared → Prop} {s : Shared}
theorem call_zipS {tx : Str} {tt : Tok} {l2 : Addr} {ys : Array Value} {Q : Value → Shared → Prop} (ha : tx.cps.all (· < 128) = true) (hl2 : s.heap.IsTuple l2 ys)
    (h : ∀ h', IsZip h' (s.heap.objs.size + 4) (s.heap.objs.size + 2) (s.heap.objs.size + 3) .none → IsPair h' (s.heap.objs.size + 2) (.ref s.heap.objs.size) (.ref (s.heap.objs.size + 1)) →
      IsPair h' (s.heap.objs.size + 3) .none .none → h'.IsStrIter s.heap.objs.size "str_ascii_iterator" tx tt 0 → h'.IsTupleIter (s.heap.objs.size + 1) l2 0 → h'.objs.size = s.heap.objs.size + 5 →
      (∀ c o, s.heap.get? c = some o → h'.get? c = some o) → Q (.ref (s.heap.objs.size + 4)) { s with heap := h' }) :
    wpAny (model prog w) A (call (.type "zip") [.str tx tt, .ref l2]) Q E s := by
  refine callType_new F.called_zip (by decide) (F.typeCall_zip_2 _ _) (F.newCall_zip_2 _ _) (fun obj => F.args_object_init_3 obj _ _) F.entry_zip_new
    (meets_zipS_new tx tt l2 ys ha) ⟨hl2, ?_⟩
  have z1 : (zipSH1 s.heap tx tt).objs.size = s.heap.objs.size + 1 := Heap.size_push ..
  have z2 : (zipSH2 s.heap tx tt l2).objs.size = s.heap.objs.size + 2 := by rw [Heap.size_push, z1]
  have z3 : (zipSH3 s.heap tx tt l2).objs.size = s.heap.objs.size + 3 := by rw [Heap.size_push, z2]
  have z4 : (zipSH4 s.heap tx tt l2).objs.size = s.heap.objs.size + 4 := by rw [Heap.size_push, z3]
  have z5 : (zipSH5 s.heap tx tt l2).objs.size = s.heap.objs.size + 5 := by rw [Heap.size_push, z4]
  have g5 : (zipSH5 s.heap tx tt l2).get? (zipSH4 s.heap tx tt l2).objs.size = some _ := Heap.get?_push_size _ rfl
  have g4 : (zipSH5 s.heap tx tt l2).get? (zipSH3 s.heap tx tt l2).objs.size = some _ := Heap.get?_push_of_some _ (Heap.get?_push_size _ rfl)
  have g3 : (zipSH5 s.heap tx tt l2).get? (zipSH2 s.heap tx tt l2).objs.size = some _ := Heap.get?_push_of_some _ (Heap.get?_push_of_some _ (Heap.get?_push_size _ rfl))
  have g2 : (zipSH5 s.heap tx tt l2).get? (zipSH1 s.heap tx tt).objs.size = some _ := Heap.get?_push_of_some _ (Heap.get?_push_of_some _ (Heap.get?_push_of_some _ (Heap.get?_push_size _ rfl)))
  have g1 : (zipSH5 s.heap tx tt l2).get? s.heap.objs.size = some _ := Heap.get?_push_of_some _ (Heap.get?_push_of_some _ (Heap.get?_push_of_some _ (Heap.get?_push_of_some _ (Heap.get?_push_size _ rfl))))
  show _ ∧ _
  rw [z2, z3, z4] at g5
  rw [z1, z2] at g3
  rw [z3] at g4
  rw [z1] at g2
  rw [z4]
  exact ⟨⟨_, g5, rfl⟩, h _ g5 g3 g4 ⟨_, g1, rfl, rfl⟩ ⟨_, g2, rfl, rfl⟩ z5 fun c o x =>
    Heap.get?_push_of_some _ (Heap.get?_push_of_some _ (Heap.get?_push_of_some _ (Heap.get?_push_of_some _ (Heap.get?_push_of_some _ x))))⟩
end
end RZ
set_option Elab.async false
set_option linter.all false
set_option maxRecDepth 100000
set_option maxHeartbeats 1000000
namespace ZS
open PySem PySem.Spec PyProof.Rows L2
/-- a text's signs and the items of the tuple at b, in new pairs -/
def Itzs (K : PySem.W.Frag) (z : Str) (b : Addr) : It :=
  ⟨fun i H => ∃ (ys : List V) (c : Nat) (y : V), SqT K H b ys ∧ z.cps[i]? = some c ∧ ys[i]? = some y,
    fun i H v H' => ∃ T c y, v = .ref T ∧ H T = none ∧ H' = upd H T (.tup [.str ⟨#[c]⟩, y]) ∧ z.cps[i]? = some c ∧ ∀ ys, SqT K H b ys → ys[i]? = some y,
    fun i H => ∃ ys : List V, SqT K H b ys ∧ (z.cps.size ≤ i ∨ ys.length ≤ i)⟩
theorem turn_zipS {P : Program} {w : World} {K : PySem.W.Frag} {elts : List Expr} {kk : Nat} {tpos : Pos} {tx : Str} {tt : Tok} {a b z TI TO i1 i2 : Addr} (D : ZipApart z TI TO i1 i2 a b) :
    Turn P w K (.Tuple elts kk tpos) (Itzs K tx b) [z, TI, TO, i1, i2] z (fun i h => IsZip h z TI TO .none ∧ IsPair h TI (.ref i1) (.ref i2) ∧ (∃ x y, IsPair h TO x y) ∧ h.IsStrIter i1 "str_ascii_iterator" tx tt i ∧ h.IsTupleIter i2 b i) where
  mem := by simp
  obj := fun i h st c hc => by
    obtain ⟨hz, hTI, ⟨x, y, hTO⟩, ⟨o1, e1, _, d1⟩, ⟨o2, e2, _, d2⟩⟩ := st
    rcases (show c = z ∨ c = TI ∨ c = TO ∨ c = i1 ∨ c = i2 by simpa using hc) with rfl | rfl | rfl | rfl | rfl
    · exact ⟨_, hz, fun v q => nomatch q⟩
    · exact ⟨_, hTI, fun v q => nomatch q⟩
    · exact ⟨_, hTO, fun v q => nomatch q⟩
    · exact ⟨o1, e1, fun v q => by rw [d1] at q; cases q⟩
    · exact ⟨o2, e2, fun v q => by rw [d2] at q; cases q⟩
  keep := fun i h h' st k => by
    obtain ⟨hz, hTI, ⟨x, y, hTO⟩, ⟨o1, e1, r1⟩, h2⟩ := st
    exact ⟨k z (by simp) _ hz, k TI (by simp) _ hTI, ⟨x, y, k TO (by simp) _ hTO⟩, ⟨o1, k i1 (by simp) _ e1, r1⟩, h2.at fun o q => k i2 (by simp) o q⟩
  item := by
    intro X hP hw hK hc i pins s σ H E I hf st hg
    subst hP hw hK
    obtain ⟨hz, hTI, ⟨x0, y0, hTO⟩, h1, h2⟩ := st
    obtain ⟨ys, c, y, hqy, hx, hy⟩ := hg
    obtain ⟨its2, rv2, p2, _⟩ := I.tuple hqy
    obtain ⟨u2, hu2, ru2⟩ := rv2.get hy
    have hzl : z < s.heap.objs.size := Heap.lt_size hz
    refine RZ.pyNext_zipS_item D hz hTI hTO h1 h2 p2 (c0 := c) (y := u2) hx (by simpa using hu2) fun h' z' TO' h1' h2' hT hsz hk => ?_
    refine ⟨_, rfl, wpAny_letOwnedTupleGo_zip (s := { s with heap := h', toks := s.toks + 1 }) z' fun h'' z'' sb => ?_⟩
    have hT2 : h''.get? s.heap.objs.size = some { cls := .type "tuple", data := .seq #[.str ⟨#[c]⟩ s.toks, u2] } := (sb.2 _ (Nat.ne_of_gt hzl)).trans hT
    have new : ObjOk X.prog X.w (upd H s.heap.objs.size (.tup [.str ⟨#[c]⟩, y])) h'' s.heap.objs.size (.tup [.str ⟨#[c]⟩, y]) :=
      ⟨by show 2 ≤ sizeLine; decide, [.str ⟨#[c]⟩ s.toks, u2], .cons ⟨_, rfl⟩ (.cons ru2 .nil), ⟨_, hT2, rfl, _, rfl⟩⟩
    have I1 : Inv X pins σ (upd H s.heap.objs.size (.tup [.str ⟨#[c]⟩, y])) { s with heap := h'', toks := s.toks + 1 } :=
      I.turnedNew (t' := s.toks + 1) (ch := [z, TI, TO, i1, i2]) (fun c o hb q => (sb.2 c (fun q' => hb (by simp [q']))).trans (hk c o (fun q' => hb (by simp [q'])) (fun q' => hb (by simp [q'])) (fun q' => hb (by simp [q'])) (fun q' => hb (by simp [q'])) q)) hf (Nat.le_refl _) new
    refine ⟨.ref s.heap.objs.size, _, I1, rfl, ⟨_, c, y, rfl, I.hok.fresh (Nat.le_refl _), rfl, hx, fun l hl => by rw [I.tuple_inj hl hqy]; exact hy⟩, ⟨z'', ?_, ⟨.str ⟨#[c]⟩ s.toks, u2, ?_⟩, ?_, ?_⟩, fun d hcm => ?_⟩
    · exact (sb.2 _ D.TIz).trans (hk _ _ D.TIz D.TITO D.TIi1 D.TIi2 hTI)
    · exact (sb.2 _ D.TOz).trans TO'
    · obtain ⟨o1, e1, r1⟩ := h1'
      exact ⟨o1, (sb.2 _ D.i1z).trans e1, r1⟩
    · exact h2'.at fun o q => (sb.2 _ D.i2z).trans q
    · have hlt : d < s.heap.objs.size := by
        rcases (show d = z ∨ d = TI ∨ d = TO ∨ d = i1 ∨ d = i2 by simpa using hcm) with rfl | rfl | rfl | rfl | rfl
        · exact hzl
        · exact Heap.lt_size hTI
        · exact Heap.lt_size hTO
        · obtain ⟨_, e1, _⟩ := h1; exact Heap.lt_size e1
        · obtain ⟨_, e2, _⟩ := h2; exact Heap.lt_size e2
      rw [upd_ne (Nat.ne_of_lt hlt)]
      exact (hf d hcm).1
  done := by
    intro X hP hw hK hc i pins s σ H E I hf st hg
    subst hP hw hK
    obtain ⟨hz, hTI, ⟨x0, y0, hTO⟩, h1, h2⟩ := st
    obtain ⟨ys, hqy, hend⟩ := hg
    obtain ⟨its2, rv2, p2, _⟩ := I.tuple hqy
    have l2 := rv2.length
    have he : tx.cps[i]? = none ∨ its2.toArray[i]? = none := by
      rcases hend with q | q
      · exact .inl (Array.getElem?_eq_none q)
      · exact .inr (by simp; omega)
    exact RZ.pyNext_zipS_end (I.ok.hd hc) D hz hTI hTO h1 h2 p2 he fun h' tk hk => ⟨rfl, I.turnedL (t' := tk) (ch := [z, TI, TO, i1, i2]) (fun c o hb q =>
      hk c o (fun q' => hb (by simp [q'])) (fun q' => hb (by simp [q'])) (fun q' => hb (by simp [q'])) (fun q' => hb (by simp [q'])) q) hf⟩
  self := fun A i s Q E st h => wpAny_pyIter_zip st.1 h
def iZipS (K : PySem.W.Frag) (ta : TA) : TI := fun σ H R => ta σ H fun vs H1 => ∃ (z : Str) (b : Addr) (ys : List V), vs = [.str z, .ref b] ∧ z.cps.all (· < 128) = true ∧ SqT K H1 b ys ∧ R (Itzs K z b) H1
theorem pi_zipS {X : Cx} {e e2 : Expr} {ta : TA} {p pos tpos : Pos} {elts : List Expr} {kk : Nat} (hg : Gl X "zip") (hm : X.mg "zip" = none) (ha : PA X [e, e2] ta)
    (hs : starEach [e, e2] X.env = (false, eval e X.env) :: starEach [e2] X.env := by rfl) (hpl : (backTo pos (starEach [e2] X.env)).any (·.1) = false := by rfl) :
    PI X (.Tuple elts kk tpos) (.Call (.Name "zip" p) [e, e2] [] pos) (iZipS X.K ta) := by
  refine ⟨fun pins s σ H R I h => ?_⟩
  refine Call_ (ld_blt I hg hm PyProof.Rows.boot_zip (PyProof.Rows.callWith_type1 (thn (ha.run pos pins s σ H _ I h) fun us s1 ⟨vs, H1, I1, r1, q1⟩ => ?_) hs hpl))
  obtain ⟨z, b, ys, ex, hz, hqy, q⟩ := q1
  subst ex
  obtain ⟨u1, u2, rfl, ⟨tt, rfl⟩, rb⟩ := vals2 r1
  obtain rfl : u2 = Value.ref b := rb
  obtain ⟨its2, rv2, p2, _⟩ := I1.tuple hqy
  obtain ⟨o2, ho2, _⟩ := id p2
  have fresh5 : ∀ c, c ∈ [s1.heap.objs.size + 4, s1.heap.objs.size + 2, s1.heap.objs.size + 3, s1.heap.objs.size, s1.heap.objs.size + 1] → FpOk X pins H1 c := fun c hcm => by
    have hle : s1.heap.objs.size ≤ c := by
      simp only [List.mem_cons, List.not_mem_nil, or_false] at hcm
      omega
    exact I1.fpOk hle (I1.hok.fresh hle)
  refine RZ.call_zipS hz (show s1.heap.IsTuple b its2.toArray from p2) fun h' hzp hTI hTO h1 h2 hsz hk => wpAny_pyIter_zip hzp ?_
  have I2 : Inv X pins σ H1 { s1 with heap := h' } := I1.kept (t' := s1.toks) hk
  exact ⟨s1.heap.objs.size + 4, [s1.heap.objs.size + 4, s1.heap.objs.size + 2, s1.heap.objs.size + 3, s1.heap.objs.size, s1.heap.objs.size + 1], _, _, H1, rfl, I2, turn_zipS (PySem.W.ktu_apart s1.heap.objs.size b b (Heap.lt_size ho2) (Heap.lt_size ho2)), ⟨hzp, hTI, ⟨_, _, hTO⟩, h1, h2⟩, fresh5, q⟩
theorem walk_zipS {K : PySem.W.Frag} {z : Str} {b : Addr} {ys : List V} {n : Nat} (hn : n = min z.cps.size ys.length) : Walk (Itzs K z b) n (fun H => SqT K H b ys) (YPair (fun i => z.cps[i]?.map fun c => .str ⟨#[c]⟩) (fun i => ys[i]?)) := by
  subst hn
  refine ⟨fun i _ hi q => ?_, fun _ q => ⟨ys, q, by omega⟩, fun i H v H' _ q y => ?_⟩
  · have h1 : i < z.cps.size := by omega
    have h2 : i < ys.length := by omega
    exact ⟨ys, z.cps[i], ys[i], q, by simp [h1], by simp [h2]⟩
  · obtain ⟨T, c, y, h1, h2, h3, h4, h5⟩ := y
    exact ⟨T, .str ⟨#[c]⟩, y, h1, h2, h3, by simp [h4], h5 ys q⟩
end ZS
set_option Elab.async false
set_option linter.all false
set_option maxRecDepth 100000
set_option maxHeartbeats 0
namespace K07
open PySem PySem.Spec PyProof.Rows L2
abbrev FnP (K : PySem.W.Frag) (x : Str) (st : Stmt) (f : Addr) (fd : FuncData) : Prop := FunD K x x (defArgs st) (defBody st) (defScope st) [] [] f fd
/-- the globals that stay free -/
structure Txt (K : PySem.W.Frag) (mg : Str → Option Value) : Prop where
  isi : mg "isinstance" = none
  len : mg "len" = none
  all : mg "all" = none
  str : mg "str" = none
  max : mg "max" = none
  min : mg "min" = none
  int : mg "int" = none
  rng : mg "range" = none
  tup : mg "tuple" = none
  any : mg "any" = none
  bl : mg "bool" = none
  lst : mg "list" = none
  zip : mg "zip" = none
  set : mg "set" = none
  sorted : mg "sorted" = none
abbrev sSource : Stmt := top 36
abbrev sDraw : Stmt := top 37
abbrev nSource : List Str := ["_law_script", "_law_turn", "_law_cell", "_law_number", "_law_seed"]
abbrev nDraw : List Str := ["_law_source_here", "_law_amount", "_law_digit"]
def rS : Int := 2147483647
/-- what a source holds -/
def Src (H : Hp) (p : Addr) : Prop := ∃ N S : Int, H p = some (.lst [.int N, .int S]) ∧ 0 ≤ N ∧ 0 ≤ S ∧ S < 2147483647
def spSource (K : PySem.W.Frag) : Sp := fun vs H Q _ => ∃ (a : Addr) (ns : List Int) (t : Int), vs = [.ref a, .int t] ∧ SqL K H a (ns.map V.int) ∧ 0 ≤ t ∧ t < 100 ∧
  ∀ p N S, H p = none → 0 ≤ N → 0 ≤ S → S < 2147483647 → Q (.ref p) (upd H p (.lst [.int N, .int S]))
def spDraw : Sp := fun vs H Q _ => ∃ (p : Addr) (N S m : Int), vs = [.ref p, .int m] ∧ H p = some (.lst [.int N, .int S]) ∧ 0 ≤ N ∧ 0 ≤ S ∧ S < 2147483647 ∧ 0 < m ∧ m < 1073741824 ∧
  ∀ d N' S', 0 ≤ d → d < m → 0 ≤ N' → 0 ≤ S' → S' < 2147483647 → Q (.int d) (upd H p (.lst [.int N', .int S']))
section
variable {P : Program} {w : World} {K : PySem.W.Frag} {mg : Str → Option Value} {base : Heap} {f : Addr} {fd : FuncData}
theorem scSource : FnScope nSource ["_law_script", "_law_turn"] (defScope sSource) := ⟨rfl, rfl, rfl, by decide +kernel, rfl, by decide +kernel, by decide +kernel⟩
theorem scDraw : FnScope nDraw ["_law_source_here", "_law_amount"] (defScope sDraw) := ⟨rfl, rfl, rfl, by decide +kernel, rfl, by decide +kernel, by decide +kernel⟩
theorem boot_len : bootBuiltins "len" = some (.builtin "len") := by kernel_rfl
theorem boot_max : bootBuiltins "max" = some (.builtin "max") := by kernel_rfl
theorem boot_int : bootBuiltins "int" = some (.type "int") := by kernel_rfl
theorem atI_int {ns : List Int} {t : Int} (h0 : 0 ≤ t) (h1 : t < (ns.map V.int).length) : ∃ c, L2.atI (ns.map V.int) t = some (.int c) := by
  obtain ⟨k, rfl⟩ := Int.eq_ofNat_of_zero_le h0
  have hk : k < ns.length := by rw [List.length_map] at h1; exact Int.ofNat_lt.mp h1
  exact ⟨ns[k], atI_nat (by rw [List.getElem?_map, List.getElem?_eq_getElem hk]; rfl)⟩
theorem two_ok : 2 ≤ sizeLine := by rw [sizeLine_eq]; decide
theorem ok_source (F : FnP K "_law_source" sSource f fd) (T : Txt K mg) : FnOk P w K mg base CX0 1 f fd ["_law_script", "_law_turn"] (spSource K) := by
  refine F.ok scSource (fun vs H Q E h => ?_) (fun cdv A outer s H vs Q E hr h => ?_)
  · obtain ⟨a, ns, t, rfl, _⟩ := h
    rfl
  · obtain ⟨a, ns, t, rfl, hS, h0, h1, hQ⟩ := h
    refine ⟨_, PSs.nox (pss_cons (ps_set (i := 2) scSource.nd rfl (Or.inl rfl) pe_int)
      (Evl.pss_cut (ps_if (pt_cmpR op_lt (pv 1) (pe_callB call_len rfl T.len boot_len (pa_cons (pv 0) pa_nil)) (nomark _)) (pss_one (ps_set (i := 2) scSource.nd rfl (Or.inl rfl) (pe_ix ix_list (pv 0) (pv 1) (fun _ _ => rfl)))) pss_nil)
      (pss_cons (ps_set (i := 3) scSource.nd rfl (Or.inl rfl) (pe_callB (call_max2 rfl) rfl T.max boot_max (pa_cons (pv 2) (pa_cons (pe_op op_sub (pe_un un_neg pe_int) (pv 2)) pa_nil))))
      (pss_cons (ps_set (i := 4) scSource.nd rfl (Or.inl rfl) (pe_op op_mod (pe_callTy call_int1 rfl T.int boot_int (pa_cons (pe_op op_add (pe_op op_add (pe_op op_mul (pe_op op_mod (pe_callTy call_int1 rfl T.int boot_int (pa_cons (pv 3) pa_nil)) pe_int) pe_int) (pe_op op_mul pe_int (pv 1))) pe_int) pa_nil)) pe_int))
      (Evl.pss_cut (ps_if (pt_cmpR op_lt (pv 3) (pe_op op_pow pe_int pe_int) (nomark _)) (pss_one (ps_set (i := 3) scSource.nd rfl (Or.inl rfl) pe_int)) pss_nil)
      (pss_one (ps_ret (pe_lst (pa_cons (pv 3) (pa_cons (pv 4) pa_nil)))))))))), ?_⟩
    refine ⟨fun σ' H' => ∃ c : Int, σ' = [some (.ref a), some (.int t), some (.int c), none, none] ∧ H' = H, ?_, ?_⟩
    · refine ⟨_, rfl, _, rfl, _, _, rfl, Or.inl ⟨_, hS, rfl⟩, _, _, rfl, rfl, _, rfl, ?_⟩
      refine ite2 (fun hlt => ?_) (fun _ => ⟨0, rfl, rfl⟩)
      obtain ⟨c, hc⟩ := atI_int h0 (of_decide_eq_true hlt)
      exact ⟨_, rfl, _, rfl, a, _, t, .int c, rfl, rfl, hS, hc, c, rfl, rfl⟩
    · rintro σ' H' ⟨c, rfl, rfl⟩
      refine ⟨_, rfl, _, rfl, _, rfl, _, _, rfl, rfl, _, _, rfl, ?_⟩
      have hN : 0 ≤ (if -1 - c > c then -1 - c else c) := by split <;> omega
      generalize (if -1 - c > c then -1 - c else c) = N at hN
      refine ⟨_, rfl, Or.inl ⟨_, rfl, _, _, rfl, rfl, (by decide : (0 : Int) < 2147483629), _, _, rfl, rfl, Or.inr ⟨by decide, by decide⟩, _, rfl, _, _, rfl, rfl, Or.inl ⟨by decide, by decide⟩, _, _, rfl, rfl, _, _, rfl, rfl, Or.inl ⟨_, rfl, _, _, rfl, rfl, (by decide : (0 : Int) < 2147483647), ?_⟩⟩⟩
      have hS1 : 0 ≤ (N % 2147483629 * 16807 + 104729 * t + 11) % 2147483647 := Int.emod_nonneg _ (by decide)
      have hS2 : (N % 2147483629 * 16807 + 104729 * t + 11) % 2147483647 < 2147483647 := Int.emod_lt_of_pos _ (by decide)
      refine ⟨fun σ' H1 => ∃ M S : Int, 0 ≤ M ∧ 0 ≤ S ∧ S < 2147483647 ∧ σ' = [some (.ref a), some (.int t), some (.int c), some (.int M), some (.int S)] ∧ H1 = H', ?_, ?_⟩
      · refine ⟨_, rfl, _, _, rfl, rfl, ⟨by decide, by decide, by decide⟩, _, _, rfl, rfl, _, rfl, ?_⟩
        exact ite2 (fun _ => ⟨0, _, Int.le_refl _, hS1, hS2, rfl, rfl⟩) (fun _ => ⟨N, _, hN, hS1, hS2, rfl, rfl⟩)
      · rintro σ' H1 ⟨M, S, hM, q1, q2, rfl, rfl⟩
        exact ⟨_, rfl, _, rfl, two_ok, fun p hp => hQ p M S hp hM q1 q2⟩
theorem ok_draw (F : FnP K "_law_draw" sDraw f fd) (T : Txt K mg) : FnOk P w K mg base CX0 1 f fd ["_law_source_here", "_law_amount"] spDraw := by
  refine F.ok scDraw (fun vs H Q E h => ?_) (fun cdv A outer s H vs Q E hr h => ?_)
  · obtain ⟨p, N, S, m, rfl, _⟩ := h
    rfl
  · obtain ⟨p, N, S, m, rfl, hp, hN, hS1, hS2, hm1, hm2, hQ⟩ := h
    refine ⟨_, PSs.nox (pss_cons (ps_if (pt_cmpR op_gt (pe_ix ix_list (pv 0) pe_int (fun _ _ => rfl)) pe_int (nomark _))
        (pss_cons (ps_set (i := 2) scDraw.nd rfl (Or.inl rfl) (pe_op op_mod (pe_callTy call_int1 rfl T.int boot_int (pa_cons (pe_ix ix_list (pv 0) pe_int (fun _ _ => rfl)) pa_nil)) (pv 1)))
        (pss_cons (ps_asg (pe_op op_fdiv (pe_ix ix_list (pv 0) pe_int (fun _ _ => rfl)) (pv 1)) (pg_sub (pv 0) pe_int set_list))
        (pss_one (ps_ret (pv 2))))) pss_nil)
      (pss_cons (ps_asg (pe_op op_mod (pe_callTy call_int1 rfl T.int boot_int (pa_cons (pe_op op_add (pe_op op_mul (pe_ix ix_list (pv 0) pe_int (fun _ _ => rfl)) pe_int) pe_int) pa_nil)) pe_int) (pg_sub (pv 0) pe_int set_list))
      (pss_one (ps_ret (pe_op op_mod (pe_callTy call_int1 rfl T.int boot_int (pa_cons (pe_op op_fdiv (pe_op op_mod (pe_callTy call_int1 rfl T.int boot_int (pa_cons (pe_op op_mul (pe_ix ix_list (pv 0) pe_int (fun _ _ => rfl)) (pe_ix ix_list (pv 0) pe_int (fun _ _ => rfl))) pa_nil)) pe_int) pe_int) pa_nil)) (pv 1)))))), ?_⟩
    have hL : SqL K H p [.int N, .int S] := SqL.of hp
    refine ⟨_, rfl, p, _, 0, .int N, rfl, rfl, hL, rfl, _, _, rfl, rfl, _, rfl, ?_⟩
    refine ite2 (fun h0 => ?_) (fun _ => ?_)
    · refine ⟨_, rfl, p, _, 0, .int N, rfl, rfl, hL, rfl, Or.inl ⟨_, rfl, _, rfl, _, _, rfl, rfl, hm1, ?_⟩⟩
      refine ⟨_, rfl, p, _, 0, .int N, rfl, rfl, hL, rfl, _, rfl, _, _, rfl, rfl, ⟨hm1, hm2⟩, _, rfl, p, _, 0, 0, rfl, rfl, hp, rfl, _, rfl, ?_⟩
      exact hQ _ _ _ (Int.emod_nonneg _ (Int.ne_of_gt hm1)) (Int.emod_lt_of_pos _ hm1) (Int.ediv_nonneg hN (Int.le_of_lt hm1)) hS1 hS2
    · have e1 : 0 ≤ (S * 48271 + 11) % 2147483647 := Int.emod_nonneg _ (by decide)
      have e2 : (S * 48271 + 11) % 2147483647 < 2147483647 := Int.emod_lt_of_pos _ (by decide)
      refine ⟨_, rfl, p, _, 1, .int S, rfl, rfl, hL, rfl, _, _, rfl, rfl, Or.inr ⟨by decide, by decide⟩, _, _, rfl, rfl, Or.inl ⟨_, rfl, _, _, rfl, rfl, (by decide : (0 : Int) < 2147483647), ?_⟩⟩
      refine ⟨_, rfl, p, _, 1, 1, rfl, rfl, hp, rfl, ?_⟩
      have hL2 : SqL K (upd H p (.lst [.int N, .int ((S * 48271 + 11) % 2147483647)])) p [.int N, .int ((S * 48271 + 11) % 2147483647)] := SqL.of upd_same
      refine ⟨_, rfl, p, _, 1, .int ((S * 48271 + 11) % 2147483647), rfl, rfl, hL2, rfl, _, rfl, p, _, 1, .int ((S * 48271 + 11) % 2147483647), rfl, rfl, hL2, rfl, _, _, rfl, rfl, Or.inl ⟨by omega, by omega⟩, Or.inl ⟨_, rfl, _, _, rfl, rfl, (by decide : (0 : Int) < 2147483629), _, _, rfl, rfl, ⟨by decide, by decide⟩, Or.inl ⟨_, rfl, _, rfl, _, _, rfl, rfl, hm1, ?_⟩⟩⟩
      exact hQ _ _ _ (Int.emod_nonneg _ (Int.ne_of_gt hm1)) (Int.emod_lt_of_pos _ hm1) hN e1 e2

/-! ### the package's functions -/
abbrev sName : Stmt := top 8
abbrev sType : Stmt := top 10
abbrev nName : List Str := ["value", "sign"]
abbrev nVal : List Str := ["value"]
def isNm (z : Str) : Bool := (decide (1 ≤ z.cps.toList.length) && decide (z.cps.toList.length ≤ 8)) && z.cps.toList.all fun c => decide (97 ≤ c) && decide (c ≤ 122)
/-- no text -/
def NoStr (K : PySem.W.Frag) (H : Hp) (x : V) : Prop := ∃ t, TyX K H x (.type t) ∧ kitB t "str" = some false
def spName (K : PySem.W.Frag) (f : Str → Bool) : Sp := fun vs H Q _ => ∃ x, vs = [x] ∧ ((∃ s : Str, x = .str s ∧ s.length ≤ 1000 ∧ PyData.strOk s = true ∧ ∀ H', Evl.Ex H H' → Q (.bl (f s)) H') ∨ (NoStr K H x ∧ Q (.bl false) H))
def lettersS : Str := "abcdefghijklmnopqrstuvwxyz"
theorem letters_iff (c : Nat) : decide (c ∈ lettersS.cps.toList) = (decide (97 ≤ c) && decide (c ≤ 122)) := by
  have e : lettersS.cps.toList = [97, 98, 99, 100, 101, 102, 103, 104, 105, 106, 107, 108, 109, 110, 111, 112, 113, 114, 115, 116, 117, 118, 119, 120, 121, 122] := by decide +kernel
  rw [e, Bool.eq_iff_iff]
  simp only [decide_eq_true_eq, Bool.and_eq_true, List.mem_cons, List.not_mem_nil, or_false]
  omega
theorem scName : FnScope nName ["value"] (defScope sName) := ⟨rfl, rfl, rfl, by decide +kernel, rfl, by decide +kernel, by decide +kernel⟩
theorem boot_isi : bootBuiltins "isinstance" = some (.builtin "isinstance") := by kernel_rfl
theorem boot_all : bootBuiltins "all" = some (.builtin "all") := by kernel_rfl
theorem boot_str : bootBuiltins "str" = some (.type "str") := by kernel_rfl
theorem kit_str : kitB "str" "str" = some true := by decide +kernel
theorem ok_name (F : FnP K "is_name" sName f fd) (T : Txt K mg) {tk : Tok} (gL : mg "LETTERS" = some (.str lettersS tk)) : FnOk P w K mg base CX0 1 f fd ["value"] (spName K isNm) := by
  refine F.ok scName (fun vs H Q E h => ?_) (fun cdv A outer s H vs Q E hr h => ?_)
  · obtain ⟨x, rfl, _⟩ := h
    rfl
  · obtain ⟨x, rfl, h⟩ := h
    refine ⟨_, PSs.nox (pss_cons (ps_if (PW.pt (pw_or (pt_not (pt_val (pe_callB call_isi rfl T.isi boot_isi (pa_cons (pv 0) (pa_cons (pe_bltn rfl T.str boot_str (v := .ty "str") rfl) pa_nil)))))
          (pw_or1 (pt_not (pt_chain op_le op_le pe_int (pe_callB call_len rfl T.len boot_len (pa_cons (pv 0) pa_nil)) pe_int))))) (pss_one (ps_ret pe_bl)) pss_nil)
        (pss_one (ps_ret (pe_callB (cr_all rfl) rfl T.all boot_all (pa_cons (pe_lc (own := [("sign", 1)]) (g := gName 1) (tt := tYes) rfl scName.nd (pi_str (pv 0)) (blkOk_by (N := nName) (sc := defScope sName) (by decide +kernel))
          (fun _ _ _ _ _ => pg_name (i := 1) scName.nd rfl (Or.inl rfl)) (fun _ _ _ _ _ => pts_nil) (fun _ _ _ _ _ => pe_cmpR op_in_sign (pv 1) (pe_glob rfl gL (v := .str lettersS) ⟨tk, rfl⟩) (by rfl))) pa_nil))))), ?_⟩
    rcases h with ⟨z, rfl, hz, hk, hQ⟩ | ⟨⟨t, ty, kt⟩, hQ⟩
    · refine ⟨_, rfl, _, _, _, _, true, rfl, .ty "str", .base (.str z), kit_ty kit_str, _, rfl, ?_⟩
      have hz2 : z.length ≤ sizeLine := Nat.le_trans hz (by rw [sizeLine_eq]; decide)
      have hl : z.length = z.cps.toList.length := by simp [Str.length]
      refine ⟨_, rfl, _, _, rfl, ⟨hz2, rfl⟩, _, _, rfl, rfl, _, rfl, ?_⟩
      refine ite2 (fun h1 => ⟨_, _, rfl, rfl, _, rfl, ?_⟩) (fun h1 => ⟨_, rfl, ?_⟩)
      · have h1' : 1 ≤ z.cps.toList.length := by
          have := of_decide_eq_true h1
          omega
        by_cases h2 : z.cps.toList.length ≤ 8
        · have e2 : decide ((z.length : Int) ≤ 8) = true := decide_eq_true (by omega)
          show (if (!decide ((z.length : Int) ≤ 8)) = true then _ else _)
          rw [e2]
          refine iteF ?_
          refine ⟨_, rfl, _, rfl, fun D hD => ?_⟩
          refine lc_it (walk_str (z := z)) (fun i H' => Evl.Ex H H' ∧ H D = none ∧ H' D = some (.lst ((z.cps.toList.take i).map fun c => .bl (decide (97 ≤ c) && decide (c ≤ 122))))) ⟨Evl.Ex.new hD, hD, upd_same⟩ (fun _ _ _ _ => trivial) ?_ ?_
          · rintro i x H2 H3 hi ⟨e, _, hd⟩ ⟨rfl, c, hc, rfl⟩
            refine ⟨rfl, ?_⟩
            unfold tYes
            dsimp only
            rw [if_pos rfl]
            refine ⟨_, rfl, c, lettersS, rfl, rfl, _, hd, ?_, e.mut hD, hD, ?_⟩
            · rw [List.length_map, List.length_take]
              have : z.cps.toList.length < sizeLine := by rw [sizeLine_eq]; omega
              omega
            · have hc' : z.cps.toList[i]? = some c := by simpa using hc
              have hi' : i < z.cps.toList.length := by simpa using hi
              rw [upd_same, letters_iff, List.take_succ, hc']
              simp
          · rintro H2 ⟨e, _, hd⟩
            refine ⟨D, z.cps.toList.map fun c => decide (97 ≤ c) && decide (c ≤ 122), rfl, ?_, ?_⟩
            · refine SqL.of ?_
              rw [hd, List.take_of_length_le (by simp), List.map_map]
              rfl
            · have q := hQ H2 e
              have e3 : isNm z = (z.cps.toList.map fun c => decide (97 ≤ c) && decide (c ≤ 122)).all id := by
                unfold isNm
                rw [decide_eq_true h1', decide_eq_true h2, List.all_map]
                simp [Function.comp_def]
              rw [e3] at q
              exact q
        · have e2 : decide ((z.length : Int) ≤ 8) = false := decide_eq_false (by omega)
          show (if (!decide ((z.length : Int) ≤ 8)) = true then _ else _)
          rw [e2]
          refine iteT ?_
          have q := hQ H (Evl.Ex.refl H)
          have e3 : isNm z = false := by unfold isNm; rw [decide_eq_false h2]; simp
          rw [e3] at q
          exact q
      · have h1' : ¬ 1 ≤ z.cps.toList.length := by
          intro q
          apply h1
          exact decide_eq_true (by omega)
        have q := hQ H (Evl.Ex.refl H)
        have e3 : isNm z = false := by unfold isNm; rw [decide_eq_false h1']; simp
        rw [e3] at q
        exact q
    · refine ⟨_, rfl, _, _, _, _, false, rfl, .ty "str", ty, kit_ty kt, _, rfl, ?_⟩
      exact hQ

/-! ### kinds -/
def brk : Str := "[]"
def eb (z : Str) : Bool := Txt.endswith z brk
def c2 (z : Str) : Str := cutS z none (some (-2))
def nmOf (z : Str) : Str := if eb z = true then c2 z else z
theorem arr_iff (z : Str) : decide (V.str (cutS z (some (-2)) none) = V.str brk) = eb z := by
  have eb_eq : eb z = (decide (2 ≤ z.cps.toList.length) && decide (z.cps.toList.drop (z.cps.toList.length - 2) = brk.cps.toList)) := by
    have hl : z.length = z.cps.toList.length := by simp [Str.length]
    have hb : brk.length = 2 := by decide +kernel
    unfold eb Txt.endswith
    rw [PySem.StrLaws.subAt_eq, hb, hl, Nat.zero_add]
    by_cases h : 2 ≤ z.cps.toList.length
    · rw [List.take_of_length_le (by rw [List.length_drop]; omega), decide_eq_true h]
      rw [Bool.true_and, Bool.true_and, Bool.beq_eq_decide_eq]
    · rw [decide_eq_false h, Bool.false_and, Bool.false_and]
  have hcut : (cutS z (some (-2)) none).cps.toList = z.cps.toList.drop (z.cps.toList.length - 2) := by
    have hl : z.length = z.cps.toList.length := by simp [Str.length]
    unfold cutS
    show ((z.cps.toList.drop (HT.sIx z.length 0 (some (-2)))).take (HT.sIx z.length z.length none - HT.sIx z.length 0 (some (-2)))).toArray.toList = _
    have e1 : HT.sIx z.length 0 (some (-2)) = z.cps.toList.length - 2 := by
      unfold HT.sIx
      rw [hl]
      show (if (-2 : Int) < 0 then _ else _) = _
      rw [if_pos (by decide)]
      omega
    rw [e1, HT.sIx_none, hl]
    rw [List.take_of_length_le (by rw [List.length_drop]; omega)]
  rw [eb_eq, Bool.eq_iff_iff]
  simp only [decide_eq_true_eq, Bool.and_eq_true]
  constructor
  · intro h
    have h2 : (cutS z (some (-2)) none).cps.toList = brk.cps.toList := by rw [V.str.inj h]
    rw [hcut] at h2
    refine ⟨?_, h2⟩
    have h3 := congrArg List.length h2
    rw [List.length_drop] at h3
    have hb : brk.cps.toList.length = 2 := by decide +kernel
    omega
  · rintro ⟨_, h⟩
    rw [← hcut] at h
    exact congrArg V.str (Str.ext' (Array.toList_inj.mp h))
theorem nm_len (z : Str) (h : z.length ≤ 1000) : (nmOf z).length ≤ 1000 := by
  unfold nmOf
  split
  · exact Nat.le_trans (cutS_length z _ _) h
  · exact h
theorem cut_ok (z : Str) (lo hi : Option Int) (h : PyData.strOk z = true) : PyData.strOk (cutS z lo hi) = true := by
  unfold PyData.strOk at h ⊢
  rw [Array.all_eq_true_iff_forall_mem] at h ⊢
  intro c hc
  refine h c ?_
  have hc' : c ∈ ((z.cps.toList.drop (HT.sIx z.length 0 lo)).take (HT.sIx z.length z.length hi - HT.sIx z.length 0 lo)).toArray := hc
  rw [List.mem_toArray] at hc'
  exact Array.mem_toList_iff.mp (List.mem_of_mem_drop (List.mem_of_mem_take hc'))
theorem nm_ok (z : Str) (h : PyData.strOk z = true) : PyData.strOk (nmOf z) = true := by
  unfold nmOf
  split
  · exact cut_ok z _ _ h
  · exact h
theorem le_line {n : Nat} (h : n ≤ 1000) : n ≤ sizeLine := Nat.le_trans h (by rw [sizeLine_eq]; decide)
theorem scType : FnScope nVal ["value"] (defScope sType) := ⟨rfl, rfl, rfl, by decide +kernel, rfl, by decide +kernel, by decide +kernel⟩
theorem ok_type (F : FnP K "is_type" sType f fd) (T : Txt K mg) {fN : Addr} {fdN : FuncData} (FN : FnP K "is_name" sName fN fdN) (gN : mg "is_name" = some (.ref fN)) {tk : Tok} (gL : mg "LETTERS" = some (.str lettersS tk)) :
    FnOk P w K mg base CX0 2 f fd ["value"] (spName K fun z => isNm (nmOf z)) := by
  have GN : FnOk P w K mg base CX0 1 fN fdN ["value"] (spName K isNm) := ok_name FN T gL
  have bN : Binds K fdN ["value"] [] := FN.bindsN fun _ _ _ _ _ _ us hl => match us, hl with | [_], _ => rfl
  refine F.ok scType (fun vs H Q E h => ?_) (fun cdv A outer s H vs Q E hr h => ?_)
  · obtain ⟨x, rfl, _⟩ := h
    rfl
  · obtain ⟨x, rfl, h⟩ := h
    refine ⟨_, PSs.nox (pss_cons (ps_if (pt_not (pt_val (pe_callB call_isi rfl T.isi boot_isi (pa_cons (pv 0) (pa_cons (pe_bltn rfl T.str boot_str (v := .ty "str") rfl) pa_nil))))) (pss_one (ps_ret pe_bl)) pss_nil)
      (pss_one (ps_ret (pe_call GN hr rfl gN FN.kp bN .nil pass0 (pa_cons (pe_ifExp (pt_val (pe_m1 PySem.F.slot_str_endswith PySem.F.type_str_endswith mt_endswith (pv 0) pe_str)) (pe_slice sl_str (pv 0) po_none (po_some (pe_un un_neg pe_int))) (pv 0)) pa_nil))))), ?_⟩
    rcases h with ⟨z, rfl, hz, hk, hQ⟩ | ⟨⟨t, ty, kt⟩, hQ⟩
    · refine ⟨_, rfl, _, _, _, _, true, rfl, .ty "str", .base (.str z), kit_ty kit_str, _, rfl, ?_⟩
      refine ⟨_, rfl, ⟨_, rfl⟩, _, brk, rfl, rfl, _, rfl, ?_⟩
      have q : nmOf z = if eb z = true then c2 z else z := rfl
      refine ite2 (fun h => ?_) (fun h => ?_)
      · have q2 : nmOf z = c2 z := by rw [q, if_pos (show eb z = true from h)]
        refine ⟨_, rfl, _, rfl, _, rfl, z, rfl, le_line hz, _, rfl, .inl ⟨_, rfl, Nat.le_trans (cutS_length z _ _) hz, cut_ok z _ _ hk, fun H' e => ?_⟩⟩
        have q3 : Q (.bl (isNm (nmOf z))) H' := hQ H' e
        rw [q2] at q3
        exact q3
      · have q2 : nmOf z = z := by rw [q, if_neg (show ¬ eb z = true from h)]
        refine ⟨_, rfl, _, rfl, .inl ⟨_, rfl, hz, hk, fun H' e => ?_⟩⟩
        have q3 : Q (.bl (isNm (nmOf z))) H' := hQ H' e
        rw [q2] at q3
        exact q3
    · refine ⟨_, rfl, _, _, _, _, false, rfl, .ty "str", ty, kit_ty kt, _, rfl, ?_⟩
      exact hQ

/-! ### the law's own reading of a name -/
abbrev nLName : List Str := ["_law_thing", "_law_sign"]
theorem strs_dp {K : PySem.W.Frag} {H : Hp} : ∀ l : List Nat, DpAll K H (l.map fun c => V.str ⟨#[c]⟩) (l.map fun c => PyData.str ⟨#[c]⟩)
  | [] => .nil
  | c :: l => .cons (.str _) (strs_dp l)
theorem canLay_strs : ∀ l : List Nat, (∀ c ∈ l, c < 0x110000) → PyData.canLayAll0 (l.map fun c => PyData.str ⟨#[c]⟩) = true
  | [], _ => rfl
  | c :: l, h => by
    show (PyData.strOk ⟨#[c]⟩ && PyData.canLayAll0 (l.map fun c => PyData.str ⟨#[c]⟩)) = true
    rw [canLay_strs l fun d hd => h d (List.mem_cons_of_mem _ hd), Bool.and_true]
    have hc := h c List.mem_cons_self
    simp [PyData.strOk, hc]
theorem depth_strs : ∀ l : List Nat, PyData.depthAll (l.map fun c => PyData.str ⟨#[c]⟩) = 0
  | [] => rfl
  | c :: l => by
    have ih := depth_strs l
    simp only [List.map_cons, PyData.depthAll, PyData.depth, ih]
    try rfl
theorem shaped_strs (l : List Nat) (h : ∀ c ∈ l, c < 0x110000) : SeqAt.shaped (.list (l.map fun c => PyData.str ⟨#[c]⟩)) = true := by
  unfold SeqAt.shaped
  rw [show PyData.canLay0 (.list (l.map fun c => PyData.str ⟨#[c]⟩)) = PyData.canLayAll0 (l.map fun c => PyData.str ⟨#[c]⟩) from by unfold PyData.canLay0; rfl, canLay_strs l h]
  simp [PyData.depth, depth_strs]
theorem sgn_le (c : Nat) : decide (([c] : List Nat) < [97]) = decide (c < 97) := by
  rw [Bool.eq_iff_iff, decide_eq_true_eq, decide_eq_true_eq]
  constructor
  · intro h
    cases h with
    | rel h => exact h
    | cons h => cases h
  · exact fun h => .rel h
theorem sgn_ge (c : Nat) : decide (([122] : List Nat) < [c]) = decide (122 < c) := by
  rw [Bool.eq_iff_iff, decide_eq_true_eq, decide_eq_true_eq]
  constructor
  · intro h
    cases h with
    | rel h => exact h
    | cons h => cases h
  · exact fun h => .rel h
def okC (c : Nat) : Bool := decide (97 ≤ c) && decide (c ≤ 122)
end
end K07
set_option Elab.async false
set_option linter.all false
set_option maxRecDepth 100000
set_option maxHeartbeats 0
namespace K07
open PySem PySem.Spec PyProof.Rows L2
/-! ### things as data -/
def tyD : PyData → String
  | .none => "NoneType"
  | .bool _ => "bool"
  | .int _ => "int"
  | .str _ => "str"
  | .list _ => "list"
  | .tuple _ => "tuple"
  | .dict _ => "dict"
theorem ty_of {K : PySem.W.Frag} {H : Hp} {x : V} {d : PyData} (h : EX2.Dq H x d) : TyX K H x (.type (tyD d)) := by
  cases h with
  | non => exact .base .non
  | bl b => exact .base (.bl b)
  | int i => exact .base (.int i)
  | str z => exact .base (.str z)
  | lst e _ => exact .base (.lst e)
  | tup e _ => exact .base (.tup e)
  | dk e _ => exact .base (.dK e)
def isIntD : PyData → Bool
  | .int _ => true
  | _ => false
def isStrD : PyData → Bool
  | .str _ => true
  | _ => false
def isTupD : PyData → Bool
  | .tuple _ => true
  | _ => false
def isBoolD : PyData → Bool
  | .bool _ => true
  | _ => false
theorem kit_int (d : PyData) : kitB (tyD d) "int" = some (isIntD d || isBoolD d) := match d with
  | .none => (by decide +kernel : kitB "NoneType" "int" = some false)
  | .bool _ => (by decide +kernel : kitB "bool" "int" = some true)
  | .int _ => (by decide +kernel : kitB "int" "int" = some true)
  | .str _ => (by decide +kernel : kitB "str" "int" = some false)
  | .list _ => (by decide +kernel : kitB "list" "int" = some false)
  | .tuple _ => (by decide +kernel : kitB "tuple" "int" = some false)
  | .dict _ => (by decide +kernel : kitB "dict" "int" = some false)
theorem kit_bool (d : PyData) : kitB (tyD d) "bool" = some (isBoolD d) := match d with
  | .none => (by decide +kernel : kitB "NoneType" "bool" = some false)
  | .bool _ => (by decide +kernel : kitB "bool" "bool" = some true)
  | .int _ => (by decide +kernel : kitB "int" "bool" = some false)
  | .str _ => (by decide +kernel : kitB "str" "bool" = some false)
  | .list _ => (by decide +kernel : kitB "list" "bool" = some false)
  | .tuple _ => (by decide +kernel : kitB "tuple" "bool" = some false)
  | .dict _ => (by decide +kernel : kitB "dict" "bool" = some false)
theorem kit_strD (d : PyData) : kitB (tyD d) "str" = some (isStrD d) := match d with
  | .none => (by decide +kernel : kitB "NoneType" "str" = some false)
  | .bool _ => (by decide +kernel : kitB "bool" "str" = some false)
  | .int _ => (by decide +kernel : kitB "int" "str" = some false)
  | .str _ => (by decide +kernel : kitB "str" "str" = some true)
  | .list _ => (by decide +kernel : kitB "list" "str" = some false)
  | .tuple _ => (by decide +kernel : kitB "tuple" "str" = some false)
  | .dict _ => (by decide +kernel : kitB "dict" "str" = some false)
theorem kit_tupD (d : PyData) : kitB (tyD d) "tuple" = some (isTupD d) := match d with
  | .none => (by decide +kernel : kitB "NoneType" "tuple" = some false)
  | .bool _ => (by decide +kernel : kitB "bool" "tuple" = some false)
  | .int _ => (by decide +kernel : kitB "int" "tuple" = some false)
  | .str _ => (by decide +kernel : kitB "str" "tuple" = some false)
  | .list _ => (by decide +kernel : kitB "list" "tuple" = some false)
  | .tuple _ => (by decide +kernel : kitB "tuple" "tuple" = some true)
  | .dict _ => (by decide +kernel : kitB "dict" "tuple" = some false)
def isLstD : PyData → Bool
  | .list _ => true
  | _ => false
theorem kit_lstD (d : PyData) : kitB (tyD d) "list" = some (isLstD d) := match d with
  | .none => (by decide +kernel : kitB "NoneType" "list" = some false)
  | .bool _ => (by decide +kernel : kitB "bool" "list" = some false)
  | .int _ => (by decide +kernel : kitB "int" "list" = some false)
  | .str _ => (by decide +kernel : kitB "str" "list" = some false)
  | .list _ => (by decide +kernel : kitB "list" "list" = some true)
  | .tuple _ => (by decide +kernel : kitB "tuple" "list" = some false)
  | .dict _ => (by decide +kernel : kitB "dict" "list" = some false)
-- texts in it are short and of true signs
mutual
def okD : PyData → Bool
  | .str z => decide (z.length ≤ 1000) && PyData.strOk z
  | .list xs => okAll xs
  | .tuple xs => okAll xs
  | _ => true
def okAll : List PyData → Bool
  | [] => true
  | d :: ds => okD d && okAll ds
end
def inR (lo hi : Int) : PyData → Bool
  | .int i => decide (lo ≤ i) && decide (i ≤ hi)
  | _ => false
def nameD : PyData → Bool
  | .str z => isNm z
  | _ => false
def typeD : PyData → Bool
  | .str z => isNm (nmOf z)
  | _ => false
/-- a question about one thing, answered alike in every larger heap -/
def spD (f : PyData → Bool) : Sp := fun vs H Q _ => ∃ (x : V) (d : PyData), vs = [x] ∧ EX2.Dq H x d ∧ okD d = true ∧ ∀ H', Evl.Ex H H' → Q (.bl (f d)) H'
theorem name_of {K : PySem.W.Frag} {g : Str → Bool} {f : PyData → Bool} (hs : ∀ z, f (.str z) = g z) (hn : ∀ d, isStrD d = false → f d = false) : ∀ vs H Q E, spD f vs H Q E → spName K g vs H Q E := by
  rintro vs H Q E ⟨x, d, rfl, hd, hk, hQ⟩
  refine ⟨x, rfl, ?_⟩
  cases h : isStrD d with
  | true =>
    cases d with
    | str z =>
      cases hd
      simp only [okD, Bool.and_eq_true, decide_eq_true_eq] at hk
      exact .inl ⟨z, rfl, hk.1, hk.2, fun H' e => by rw [← hs]; exact hQ H' e⟩
    | _ => cases h
  | false =>
    refine .inr ⟨⟨_, ty_of hd, (kit_strD d).trans (by rw [h])⟩, ?_⟩
    have q := hQ H (Evl.Ex.refl H)
    rw [hn d h] at q
    exact q
theorem spD_len {f : PyData → Bool} {p : Str} : ∀ vs H Q E, spD f vs H Q E → vs.length = [p].length := by
  rintro vs H Q E ⟨x, d, rfl, _⟩
  rfl
section
variable {P : Program} {w : World} {K : PySem.W.Frag} {mg : Str → Option Value} {base : Heap} {f : Addr} {fd : FuncData}
theorem boot_bool : bootBuiltins "bool" = some (.type "bool") := by kernel_rfl
theorem boot_tuple : bootBuiltins "tuple" = some (.type "tuple") := by kernel_rfl
theorem boot_list : bootBuiltins "list" = some (.type "list") := by kernel_rfl
theorem boot_any : bootBuiltins "any" = some (.builtin "any") := by kernel_rfl
abbrev sInteger : Stmt := top 6
abbrev sRange : Stmt := top 7
abbrev nObj : List Str := ["obj"]
theorem scInteger : FnScope nObj ["obj"] (defScope sInteger) := ⟨rfl, rfl, rfl, by decide +kernel, rfl, by decide +kernel, by decide +kernel⟩
theorem ok_integer (F : FnP K "is_integer" sInteger f fd) (T : Txt K mg) : FnOk P w K mg base CX0 1 f fd ["obj"] (spD isIntD) := by
  refine F.ok scInteger spD_len (fun cdv A outer s H vs Q E hr h => ?_)
  obtain ⟨x, d, rfl, hd, hk, hQ⟩ := h
  refine ⟨_, PSs.nox (pss_one (ps_ret (pe_and (pe_callB call_isi rfl T.isi boot_isi (pa_cons (pv 0) (pa_cons (pe_bltn rfl T.int boot_int (v := .ty "int") rfl) pa_nil)))
    (pe_one (pe_not (pe_callB call_isi rfl T.isi boot_isi (pa_cons (pv 0) (pa_cons (pe_bltn rfl T.bl boot_bool (v := .ty "bool") rfl) pa_nil)))))))), ?_⟩
  refine ⟨_, rfl, _, _, _, _, _, rfl, .ty "int", ty_of hd, kit_ty (kit_int d), _, rfl, ?_⟩
  have q := hQ H (Evl.Ex.refl H)
  refine ite2 (fun h => ?_) (fun h => ?_)
  · refine ⟨_, rfl, _, _, _, _, _, rfl, .ty "bool", ty_of hd, kit_ty (kit_bool d), _, rfl, ?_⟩
    cases d <;> first | exact q | exact absurd h (by simp [isIntD, isBoolD])
  · cases d <;> first | exact q | exact absurd (by simp [isIntD, isBoolD]) h
def spRange : Sp := fun vs H Q _ => ∃ (x : V) (d : PyData) (lo hi : Int), vs = [x, .int lo, .int hi] ∧ EX2.Dq H x d ∧ okD d = true ∧ ∀ H', Evl.Ex H H' → Q (.bl (inR lo hi d)) H'
abbrev nRange : List Str := ["obj", "least", "most"]
theorem scRange : FnScope nRange ["obj", "least", "most"] (defScope sRange) := ⟨rfl, rfl, rfl, by decide +kernel, rfl, by decide +kernel, by decide +kernel⟩
theorem ok_range (F : FnP K "is_in_range" sRange f fd) {fI : Addr} {fdI : FuncData} (GI : FnOk P w K mg base CX0 1 fI fdI ["obj"] (spD isIntD)) (gI : mg "is_integer" = some (.ref fI)) (FI : FnP K "is_integer" sInteger fI fdI) : FnOk P w K mg base CX0 2 f fd ["obj", "least", "most"] spRange := by
  have bI : Binds K fdI ["obj"] [] := FI.bindsN fun _ _ _ _ _ _ us hl => match us, hl with | [_], _ => rfl
  refine F.ok scRange (fun vs H Q E h => ?_) (fun cdv A outer s H vs Q E hr h => ?_)
  · obtain ⟨x, d, lo, hi, rfl, _⟩ := h
    rfl
  · obtain ⟨x, d, lo, hi, rfl, hd, hk, hQ⟩ := h
    refine ⟨_, PSs.nox (pss_one (ps_ret (pe_and (pe_call GI hr rfl gI FI.kp bI .nil pass0 (pa_cons (pv 0) pa_nil)) (pe_one (pe_chain op_le op_le (pv 1) (pv 0) (pv 2)))))), ?_⟩
    refine ⟨_, rfl, x, d, rfl, hd, hk, fun H' e => ⟨_, rfl, ?_⟩⟩
    have q := hQ H' e
    refine ite2 (fun h => ?_) (fun h => ?_)
    · cases d with
      | int i =>
        cases hd
        refine ⟨_, rfl, _, rfl, _, _, rfl, rfl, _, rfl, ?_⟩
        have q2 : Q (.bl (decide (lo ≤ i) && decide (i ≤ hi))) H' := q
        refine ite2 (fun h1 => ?_) (fun h1 => ?_)
        · refine ⟨_, rfl, _, _, rfl, rfl, ?_⟩
          rw [h1, Bool.true_and] at q2
          exact q2
        · rw [show decide (lo ≤ i) = false from by simpa using h1, Bool.false_and] at q2
          exact q2
      | _ => cases h
    · cases d <;> first | exact q | exact absurd rfl h
end
end K07
set_option Elab.async false
set_option linter.all false
set_option maxRecDepth 100000
set_option maxHeartbeats 4000000
/-! data in the heap: helpers; comprehensions whose elements grow the heap alone; sources -/
namespace EX2
open PySem PySem.Spec PyProof.Rows L2
section
variable {H H' : Hp}
theorem DqAll.get {xs : List V} {ds : List PyData} (h : DqAll H xs ds) : ∀ {i : Nat} {x : V}, xs[i]? = some x → ∃ d, ds[i]? = some d ∧ Dq H x d := by
  induction xs generalizing ds with
  | nil => intro i x e; simp at e
  | cons y ys ih =>
    cases h with
    | cons h t =>
      intro i x e
      cases i with
      | zero => simp only [List.getElem?_cons_zero, Option.some.injEq] at e ⊢; subst e; exact ⟨_, rfl, h⟩
      | succ i => simp only [List.getElem?_cons_succ] at e ⊢; exact ih t e
theorem DqAll.getD {xs : List V} {ds : List PyData} (h : DqAll H xs ds) : ∀ {i : Nat} {d : PyData}, ds[i]? = some d → ∃ x, xs[i]? = some x ∧ Dq H x d := by
  induction xs generalizing ds with
  | nil => cases h; intro i x e; simp at e
  | cons y ys ih =>
    cases h with
    | cons h t =>
      intro i x e
      cases i with
      | zero => simp only [List.getElem?_cons_zero, Option.some.injEq] at e ⊢; subst e; exact ⟨_, rfl, h⟩
      | succ i => simp only [List.getElem?_cons_succ] at e ⊢; exact ih t e
theorem DqAll.drop {xs : List V} {ds : List PyData} (h : DqAll H xs ds) : ∀ (n : Nat), DqAll H (xs.drop n) (ds.drop n) := by
  induction xs generalizing ds with
  | nil => cases h; intro n; simp; exact .nil
  | cons y ys ih =>
    cases h with
    | cons h t =>
      intro n
      cases n with
      | zero => exact .cons h t
      | succ n => exact ih t n
theorem DqAll.take {xs : List V} {ds : List PyData} (h : DqAll H xs ds) : ∀ (n : Nat), DqAll H (xs.take n) (ds.take n) := by
  induction xs generalizing ds with
  | nil => cases h; intro n; simp; exact .nil
  | cons y ys ih =>
    cases h with
    | cons h t =>
      intro n
      cases n with
      | zero => exact .nil
      | succ n => exact .cons h (ih t n)
theorem DqAll.app {xs ys : List V} {ds es : List PyData} (h : DqAll H xs ds) (g : DqAll H ys es) : DqAll H (xs ++ ys) (ds ++ es) := by
  induction xs generalizing ds with
  | nil => cases h; exact g
  | cons y zs ih => cases h with
    | cons h t => exact .cons h (ih t)
theorem Dq.tupI {x : V} {ds : List PyData} (h : Dq H x (.tuple ds)) : ∃ a xs, x = .ref a ∧ H a = some (.tup xs) ∧ DqAll H xs ds := by
  cases h with
  | tup e h => exact ⟨_, _, rfl, e, h⟩
theorem Dq.lstI {x : V} {ds : List PyData} (h : Dq H x (.list ds)) : ∃ a xs, x = .ref a ∧ H a = some (.lst xs) ∧ DqAll H xs ds := by
  cases h with
  | lst e h => exact ⟨_, _, rfl, e, h⟩
theorem Dq.strI {x : V} {z : Str} (h : Dq H x (.str z)) : x = .str z := by cases h; rfl
theorem Dq.intI {x : V} {z : Int} (h : Dq H x (.int z)) : x = .int z := by cases h; rfl
end
section
variable {J : It} {n : Nat} {G : Hp → Prop} {Y : Nat → Hp → V → Hp → Prop}
/-- a comprehension whose j-th element is v j, the heap growing -/
theorem lc_map (w : Walk J n G Y) {g : TG} {te : TE} {vs : List Nat} {σ : L2.St} {H1 : Hp} {D : Addr} {Qd : Hp → Prop} (hD : H1 D = none) (hG : ∀ H', Evl.Ex H1 H' → G H') (v : Nat → V) (hz : n ≤ 100000)
    (hY : ∀ j H2 x H3, j < n → Evl.Ex H1 H2 → Y j H2 x H3 → Evl.Ex H2 H3)
    (hs : ∀ j x H2 H3, j < n → Evl.Ex H1 H2 → Evl.Ex H1 H3 → Y j H2 x H3 → ∀ Qt : V → Hp → Prop, (∀ H4, Evl.Ex H3 H4 → Qt (v j) H4) → g x (wipe σ vs) H3 fun σ2 H4 => wipe σ2 vs = wipe σ vs ∧ te σ2 H4 Qt)
    (hd : ∀ H', Evl.Ex H1 H' → H' D = some (.lst ((List.range n).map v)) → Qd H') :
    ∃ W : Nat → Nat → Hp → Prop, (∃ m, W 0 m (upd H1 D (.lst []))) ∧ ∀ i m H, W i m H →
      (J.stop i H ∧ Qd H) ∨ (J.go i H ∧ ∃ Nx : Hp → Prop, (∀ H', Nx H' → ∃ m', m' < m ∧ W (i + 1) m' H') ∧ ∀ x H', J.yld i H x H' → g x (wipe σ vs) H' fun σ2 H2 => wipe σ2 vs = wipe σ vs ∧ tYes σ2 H2 fun b H3 =>
        if b = true then te σ2 H3 fun y H4 => ∃ acc, H4 D = some (.lst acc) ∧ acc.length < sizeLine ∧ Nx (upd H4 D (.lst (acc ++ [y]))) else Nx H3) := by
  refine lc_it w (fun j H' => Evl.Ex H1 H' ∧ H' D = some (.lst ((List.range j).map v))) ⟨Evl.Ex.new hD, upd_same⟩ (fun i H hi p => hG H p.1) ?_ (fun H p => hd H p.1 p.2)
  rintro j x H2 H3 hj ⟨e, hd2⟩ hy
  have e3 := hY j H2 x H3 hj e hy
  have q := hs j x H2 H3 hj e (e.trans e3) hy (fun y H4 => ∃ acc, H4 D = some (.lst acc) ∧ acc.length < sizeLine ∧ (Evl.Ex H1 (upd H4 D (.lst (acc ++ [y]))) ∧ (upd H4 D (.lst (acc ++ [y]))) D = some (.lst ((List.range (j + 1)).map v)))) ?_
  · simp only [tYes, if_true]
    exact q
  · intro H4 e4
    refine ⟨_, e4 _ _ (e3 _ _ hd2), ?_, ((e.trans e3).trans e4).mut hD, ?_⟩
    · rw [List.length_map, List.length_range]
      exact Evl.sz_lt (by omega)
    · rw [upd_same, List.range_succ, List.map_append]
      rfl
end
theorem map_range_get {α β : Type} (xs : List α) (f : α → β) (g : Nat → β) (h : ∀ i x, xs[i]? = some x → g i = f x) : (List.range xs.length).map g = xs.map f := by
  apply List.ext_getElem?
  intro i
  rw [List.getElem?_map, List.getElem?_map]
  by_cases hi : i < xs.length
  · rw [List.getElem?_eq_getElem hi]
    simp [hi, h i xs[i] (List.getElem?_eq_getElem hi)]
  · simp [hi]
section
variable {X : Cx}
/-- a tuple == () -/
theorem op_eq_tup0 (hu : X.A.units < cLine) : OpR X (compareOp .Eq) (fun x y H Q => ∃ (a b : Addr) (xs : List V), x = .ref a ∧ y = .ref b ∧ SqT X.K H a xs ∧ SqT X.K H b [] ∧ Q (.bl xs.isEmpty) H) := by
  intro pins s σ H x y v u Q I rx ry h
  obtain ⟨a, b, xs, rfl, rfl, ha, hb, q⟩ := h
  cases rx
  cases ry
  obtain ⟨its, rv, ht, hz⟩ := I.tuple ha
  obtain ⟨its2, rv2, ht2, hz2⟩ := I.tuple hb
  have l1 := rv.length
  have l2 := rv2.length
  have e2 : its2 = [] := List.length_eq_zero_iff.mp (by simpa using l2.symm)
  subst e2
  refine SeqAt.eq_tupleAt (e := fun _ => true) ht ht2 hu (fun j h1 h2 => absurd h2 (by simp)) ⟨.bl _, H, I, rfl, ?_⟩
  have e3 : ((List.range (min its.toArray.size ([] : List Value).toArray.size)).all (fun _ => true) && its.toArray.size == ([] : List Value).toArray.size) = xs.isEmpty := by
    cases xs with
    | nil => simp at l1; simp [← l1]
    | cons x xs => cases its with
      | nil => simp at l1
      | cons => simp
  rw [e3]
  exact q
end
/-! ### a source at p -/
/-- the heap but for p -/
def rm (p : Addr) (H : Hp) : Hp := fun a => if a = p then none else H a
theorem rm_ne {p a : Addr} {H : Hp} (h : a ≠ p) : rm p H a = H a := by unfold rm; rw [if_neg h]
theorem rm_ex {p : Addr} {H : Hp} : Evl.Ex (rm p H) H := fun a o h => by
  unfold rm at h
  split at h
  · cases h
  · exact h
theorem rm_ne_of {p a : Addr} {H : Hp} {o : HO} (h : rm p H a = some o) : a ≠ p := by
  intro e
  subst e
  unfold rm at h
  rw [if_pos rfl] at h
  cases h
def Sc (p : Addr) (H : Hp) : Prop := ∃ N S : Int, H p = some (.lst [.int N, .int S]) ∧ 0 ≤ N ∧ 0 ≤ S ∧ S < 2147483647
/-- what stood stands, the source at p aside -/
structure Lx (p : Addr) (H H' : Hp) : Prop where
  ex : Evl.Ex (rm p H) (rm p H')
  sc : Sc p H'
theorem Lx.trans {p : Addr} {H H1 H2 : Hp} (a : Lx p H H1) (b : Lx p H1 H2) : Lx p H H2 := ⟨a.ex.trans b.ex, b.sc⟩
theorem Lx.refl {p : Addr} {H : Hp} (s : Sc p H) : Lx p H H := ⟨.refl _, s⟩
theorem ex_rm {p : Addr} {H H' : Hp} (e : Evl.Ex H H') : Evl.Ex (rm p H) (rm p H') := fun a o h => by
  have n := rm_ne_of h
  rw [rm_ne n] at h ⊢
  exact e a o h
theorem Sc.ex {p : Addr} {H H' : Hp} (s : Sc p H) (e : Evl.Ex H H') : Sc p H' := by
  obtain ⟨N, S, h, r⟩ := s
  exact ⟨N, S, e _ _ h, r⟩
theorem Lx.of {p : Addr} {H H' : Hp} (s : Sc p H) (e : Evl.Ex H H') : Lx p H H' := ⟨ex_rm e, s.ex e⟩
theorem Lx.then {p : Addr} {H H1 H2 : Hp} (a : Lx p H H1) (e : Evl.Ex H1 H2) : Lx p H H2 := a.trans (.of a.sc e)
theorem Sc.ne {p q : Addr} {H : Hp} (s : Sc p H) (h : H q = none) : q ≠ p := by
  rintro rfl
  obtain ⟨N, S, e, _⟩ := s
  rw [h] at e
  cases e
/-- something new, then an old list that grows: D stood nowhere in H -/
theorem Lx.mut {p D : Addr} {H H' : Hp} {o : HO} (a : Lx p H H') (hp : D ≠ p) (h : H D = none) : Lx p H (upd H' D o) := by
  refine ⟨fun b u e => ?_, ?_⟩
  · have n := rm_ne_of e
    have e2 := a.ex b u e
    rw [rm_ne n] at e e2 ⊢
    by_cases hb : b = D
    · subst hb
      rw [h] at e
      cases e
    · rw [upd_ne hb]
      exact e2
  · obtain ⟨N, S, e, r⟩ := a.sc
    exact ⟨N, S, by rw [upd_ne hp.symm]; exact e, r⟩
theorem Lx.at {p a : Addr} {H H' : Hp} {o : HO} (l : Lx p H H') (h : H a = some o) (n : a ≠ p) : H' a = some o := by
  have := l.ex a o (by rw [rm_ne n]; exact h)
  rw [rm_ne n] at this
  exact this
/-- data that stands apart from the source -/
abbrev Dz (p : Addr) (H : Hp) (x : V) (d : PyData) : Prop := Dq (rm p H) x d
abbrev DzAll (p : Addr) (H : Hp) (xs : List V) (ds : List PyData) : Prop := DqAll (rm p H) xs ds
theorem Dz.q {p : Addr} {H : Hp} {x : V} {d : PyData} (h : Dz p H x d) : Dq H x d := Dq.ext rm_ex h
theorem Dz.lx {p : Addr} {H H' : Hp} {x : V} {d : PyData} (h : Dz p H x d) (l : Lx p H H') : Dz p H' x d := Dq.ext l.ex h
theorem DzAll.lx {p : Addr} {H H' : Hp} {x : List V} {d : List PyData} (h : DzAll p H x d) (l : Lx p H H') : DzAll p H' x d := DqAll.ext l.ex h
theorem Dz.tupN {p a : Addr} {H : Hp} {xs : List V} {ds : List PyData} (s : Sc p H) (ha : H a = none) (h : DzAll p H xs ds) : Dz p (upd H a (.tup xs)) (.ref a) (.tuple ds) := by
  have n := s.ne ha
  refine .tup (xs := xs) (by rw [rm_ne n]; exact upd_same) (DqAll.ext (ex_rm (Evl.Ex.new ha)) h)
theorem Dz.lstN {p a : Addr} {H : Hp} {xs : List V} {ds : List PyData} (s : Sc p H) (ha : H a = none) (h : DzAll p H xs ds) : Dz p (upd H a (.lst xs)) (.ref a) (.list ds) := by
  have n := s.ne ha
  refine .lst (xs := xs) (by rw [rm_ne n]; exact upd_same) (DqAll.ext (ex_rm (Evl.Ex.new ha)) h)
end EX2
set_option Elab.async false
set_option linter.all false
set_option maxRecDepth 100000
set_option maxHeartbeats 0
namespace K07
open PySem PySem.Spec PyProof.Rows L2
abbrev ssequence : Stmt := top 11
abbrev sfits : Stmt := top 17
abbrev sis_instruction : Stmt := top 18
abbrev sdrawers : Stmt := top 19
abbrev stargets : Stmt := top 20
abbrev scode : Stmt := top 21
abbrev ssize : Stmt := top 22
abbrev spick : Stmt := top 38
abbrev stypeL : Stmt := top 39
abbrev scall : Stmt := top 40
abbrev smade : Stmt := top 41
abbrev sready : Stmt := top 42
abbrev smethod : Stmt := top 43
/-- what the program's top has left -/
structure Defs (w : World) (K : PySem.W.Frag) (mg : Str → Option Value) : Prop where
  t : Txt K mg
  letters : ∃ tk, mg "LETTERS" = some (.str lettersS tk)
  code40 : ∃ tk, mg "MOST_CODE" = some (.int 40 tk)
  size10 : ∃ tk, mg "MOST_SIZE" = some (.int 10 tk)
  params4 : ∃ tk, mg "MOST_PARAMS" = some (.int 4 tk)
  forms : mg "FORMS" = some (.ref (He.ga K "FORMS"))
  kd : ∃ es n, KDict K w (He.ga K "FORMS") es n
  look : ∀ z, (∃ y t, K07.forms.lookup z = some y ∧ PySem.W.nsIn K (He.ga K "FORMS") z = some (some (.str y t))) ∨ (K07.forms.lookup z = none ∧ PySem.W.nsIn K (He.ga K "FORMS") z = some none)
  is_integer : ∃ f fd, mg "is_integer" = some (.ref f) ∧ FnP K "is_integer" sInteger f fd
  is_in_range : ∃ f fd, mg "is_in_range" = some (.ref f) ∧ FnP K "is_in_range" sRange f fd
  is_name : ∃ f fd, mg "is_name" = some (.ref f) ∧ FnP K "is_name" sName f fd
  is_type : ∃ f fd, mg "is_type" = some (.ref f) ∧ FnP K "is_type" sType f fd
  is_sequence : ∃ f fd, mg "is_sequence" = some (.ref f) ∧ FnP K "is_sequence" ssequence f fd
  fits : ∃ f fd, mg "fits" = some (.ref f) ∧ FnP K "fits" sfits f fd
  is_instruction : ∃ f fd, mg "is_instruction" = some (.ref f) ∧ FnP K "is_instruction" sis_instruction f fd
  drawers_in : ∃ f fd, mg "drawers_in" = some (.ref f) ∧ FnP K "drawers_in" sdrawers f fd
  targets_in : ∃ f fd, mg "targets_in" = some (.ref f) ∧ FnP K "targets_in" stargets f fd
  is_code : ∃ f fd, mg "is_code" = some (.ref f) ∧ FnP K "is_code" scode f fd
  is_size : ∃ f fd, mg "is_size" = some (.ref f) ∧ FnP K "is_size" ssize f fd
  source : ∃ f fd, mg "_law_source" = some (.ref f) ∧ FnP K "_law_source" sSource f fd
  draw : ∃ f fd, mg "_law_draw" = some (.ref f) ∧ FnP K "_law_draw" sDraw f fd
  pick : ∃ f fd, mg "_law_pick" = some (.ref f) ∧ FnP K "_law_pick" spick f fd
  typeL : ∃ f fd, mg "_law_type" = some (.ref f) ∧ FnP K "_law_type" stypeL f fd
  call : ∃ f fd, mg "_law_call" = some (.ref f) ∧ FnP K "_law_call" scall f fd
  made : ∃ f fd, mg "_law_made" = some (.ref f) ∧ FnP K "_law_made" smade f fd
  ready : ∃ f fd, mg "_law_ready" = some (.ref f) ∧ FnP K "_law_ready" sready f fd
  method : ∃ f fd, mg "_law_method" = some (.ref f) ∧ FnP K "_law_method" smethod f fd
section
variable {P : Program} {w : World} {K : PySem.W.Frag} {mg : Str → Option Value} {base : Heap} {f : Addr} {fd : FuncData}
theorem okD_name (D : Defs w K mg) {f : Addr} {fd : FuncData} (F : FnP K "is_name" sName f fd) : FnOk P w K mg base CX0 1 f fd ["value"] (spD nameD) := by
  obtain ⟨tk, gL⟩ := D.letters
  exact (ok_name F D.t gL).imp (name_of (f := nameD) (fun _ => rfl) fun d h => by cases d <;> first | rfl | cases h)
theorem okD_type (D : Defs w K mg) {f : Addr} {fd : FuncData} (F : FnP K "is_type" sType f fd) : FnOk P w K mg base CX0 2 f fd ["value"] (spD typeD) := by
  obtain ⟨tk, gL⟩ := D.letters
  obtain ⟨fN, fdN, gN, FN⟩ := D.is_name
  exact (ok_type F D.t FN gN gL).imp (name_of (f := typeD) (fun _ => rfl) fun d h => by cases d <;> first | rfl | cases h)
theorem okD_range (D : Defs w K mg) {f : Addr} {fd : FuncData} (F : FnP K "is_in_range" sRange f fd) : FnOk P w K mg base CX0 2 f fd ["obj", "least", "most"] spRange := by
  obtain ⟨fI, fdI, gI, FI⟩ := D.is_integer
  exact ok_range F (ok_integer FI D.t) gI FI
/-! ### fits -/
def tupAll (g : PyData → Bool) : PyData → Bool
  | .tuple ds => decide (ds.length ≤ 4) && ds.all g
  | _ => false
def elC (c : Nat) (e : PyData) : Bool := if c = 121 then typeD e else inR 0 9 e
def fitsC (c : Nat) (d : PyData) : Bool :=
  if c = 114 ∨ c = 110 then inR 0 9 d else if c = 106 then inR 0 39 d else if c = 99 ∨ c = 102 then nameD d else if c = 116 then typeD d else
  tupAll (elC c) d
def spFits : Sp := fun vs H Q _ => ∃ (c : Nat) (x : V) (d : PyData), vs = [.str ⟨#[c]⟩, x] ∧ EX2.Dq H x d ∧ okD d = true ∧ ∀ H', Evl.Ex H H' → Q (.bl (fitsC c d)) H'
theorem sg_iff {c k : Nat} {z : Str} (h : z = ⟨#[k]⟩) : ((⟨#[c]⟩ : Str) = z) ↔ c = k := by
  subst h
  constructor
  · intro e
    have := congrArg (fun s : Str => s.cps.toList) e
    simpa using this
  · rintro rfl; rfl
theorem sg_eq {c k : Nat} {z : Str} (h : z = ⟨#[k]⟩) : decide (V.str ⟨#[c]⟩ = V.str z) = decide (c = k) :=
  decide_eq_decide.mpr ⟨fun e => (sg_iff h).mp (V.str.inj e), fun e => by rw [(sg_iff h).mpr e]⟩
theorem sg_in {c a b : Nat} {x y : Str} (hx : x = ⟨#[a]⟩) (hy : y = ⟨#[b]⟩) : inV (.str ⟨#[c]⟩) [.str x, .str y] = decide (c = a ∨ c = b) := by
  have h1 : (x == (⟨#[c]⟩ : Str)) = decide (c = a) := by
    rw [Bool.eq_iff_iff, beq_iff_eq, decide_eq_true_eq, eq_comm, sg_iff hx]
  have h2 : (y == (⟨#[c]⟩ : Str)) = decide (c = b) := by
    rw [Bool.eq_iff_iff, beq_iff_eq, decide_eq_true_eq, eq_comm, sg_iff hy]
  show ((x == (⟨#[c]⟩ : Str)) || ((y == (⟨#[c]⟩ : Str)) || false)) = _
  rw [h1, h2, Bool.or_false, Bool.eq_iff_iff]
  simp
theorem okAll_mem {ds : List PyData} (h : okAll ds = true) : ∀ d ∈ ds, okD d = true := by
  induction ds with
  | nil => intro d hd; cases hd
  | cons e es ih =>
    simp only [okAll, Bool.and_eq_true] at h
    intro d hd
    rcases List.mem_cons.mp hd with rfl | hd
    · exact h.1
    · exact ih h.2 d hd
theorem okAll_of {ds : List PyData} (h : ∀ d ∈ ds, okD d = true) : okAll ds = true := by
  induction ds with
  | nil => rfl
  | cons e es ih =>
    simp only [okAll, Bool.and_eq_true]
    exact ⟨h e List.mem_cons_self, ih fun d hd => h d (List.mem_cons_of_mem _ hd)⟩
abbrev nfits : List Str := ["sign", "item", "part"]
theorem scfits : FnScope nfits ["sign", "item"] (defScope sfits) := ⟨rfl, rfl, rfl, by decide +kernel, rfl, by decide +kernel, by decide +kernel⟩
theorem ok_fits (F : FnP K "fits" sfits f fd) (D : Defs w K mg) : FnOk P w K mg base CX0 3 f fd ["sign", "item"] spFits := by
  have T := D.t
  obtain ⟨tC, gC⟩ := D.code40
  obtain ⟨tP, gP⟩ := D.params4
  obtain ⟨fR, fdR, gR, FR⟩ := D.is_in_range
  have GR : FnOk P w K mg base CX0 2 fR fdR ["obj", "least", "most"] spRange := okD_range D FR
  have bR : Binds K fdR ["obj", "least", "most"] [] := FR.bindsN fun _ _ _ _ _ _ us hl => match us, hl with | [_, _, _], _ => rfl
  obtain ⟨fN, fdN, gN, FN⟩ := D.is_name
  have GN : FnOk P w K mg base CX0 1 fN fdN ["value"] (spD nameD) := okD_name D FN
  have bN : Binds K fdN ["value"] [] := FN.bindsN fun _ _ _ _ _ _ us hl => match us, hl with | [_], _ => rfl
  obtain ⟨fT, fdT, gT, FT⟩ := D.is_type
  have GT : FnOk P w K mg base CX0 2 fT fdT ["value"] (spD typeD) := okD_type D FT
  have bT : Binds K fdT ["value"] [] := FT.bindsN fun _ _ _ _ _ _ us hl => match us, hl with | [_], _ => rfl
  refine F.ok scfits (fun vs H Q E h => ?_) (fun cdv A outer s H vs Q E hr h => ?_)
  · obtain ⟨c, x, d, rfl, _⟩ := h
    rfl
  · obtain ⟨c, x, d, rfl, hd, hk, hQ⟩ := h
    refine ⟨_, PSs.nox (pss_cons (ps_if (pt_cmpR op_in_seq (pv 0) (pe_tup (pa_cons pe_str (pa_cons pe_str pa_nil))) (by rfl))
        (pss_one (ps_ret (pe_call GR (hr.mono (by decide)) rfl gR FR.kp bR .nil pass0 (pa_cons (pv 1) (pa_cons pe_int (pa_cons pe_int pa_nil))))))
        pss_nil)
      (pss_cons (ps_if (pt_cmpR op_eq (pv 0) pe_str (nomark _))
        (pss_one (ps_ret (pe_call GR (hr.mono (by decide)) rfl gR FR.kp bR .nil pass0 (pa_cons (pv 1) (pa_cons pe_int (pa_cons (pe_op op_sub (pe_glob rfl gC (v := .int 40) ⟨tC, rfl⟩) pe_int) pa_nil))))))
        pss_nil)
      (pss_cons (ps_if (pt_cmpR op_in_seq (pv 0) (pe_tup (pa_cons pe_str (pa_cons pe_str pa_nil))) (by rfl))
        (pss_one (ps_ret (pe_call GN (hr.mono (by decide)) rfl gN FN.kp bN .nil pass0 (pa_cons (pv 1) pa_nil))))
        pss_nil)
      (pss_cons (ps_if (pt_cmpR op_eq (pv 0) pe_str (nomark _))
        (pss_one (ps_ret (pe_call GT (hr.mono (by decide)) rfl gT FT.kp bT .nil pass0 (pa_cons (pv 1) pa_nil))))
        pss_nil)
      (pss_cons (ps_if (PW.pt (pw_or (pt_not (pt_val (pe_callB call_isi rfl T.isi boot_isi (pa_cons (pv 1) (pa_cons (pe_bltn rfl T.tup boot_tuple (v := .ty "tuple") rfl) pa_nil))))) (pw_or1 (pt_cmpR op_gt (pe_callB call_len rfl T.len boot_len (pa_cons (pv 1) pa_nil)) (pe_glob rfl gP (v := .int 4) ⟨tP, rfl⟩) (nomark _)))))
        (pss_one (ps_ret pe_bl))
        pss_nil)
      (pss_one (ps_ret (pe_callB (cr_all rfl) rfl T.all boot_all (pa_cons (pe_lc (own := [("part", 2)]) (g := gName 2) (tt := tYes) rfl scfits.nd (pi_tup (pv 1)) (blkOk_by (N := nfits) (sc := defScope sfits) (by decide +kernel)) (fun _ _ _ _ _ => (pg_name (i := 2) scfits.nd rfl (Or.inl rfl))) (fun _ _ _ _ _ => pts_nil) (fun _ _ _ _ _ => (pe_ifExp (pt_cmpR op_eq (pv 0) pe_str (nomark _)) (pe_call GT (hr.mono (by decide)) rfl gT FT.kp bT .nil pass0 (pa_cons (pv 2) pa_nil)) (pe_call GR (hr.mono (by decide)) rfl gR FR.kp bR .nil pass0 (pa_cons (pv 2) (pa_cons pe_int (pa_cons pe_int pa_nil))))))) pa_nil))))))))), ?_⟩
    refine ⟨_, rfl, le_line (by simp), fun t1 h1 => ⟨t1, _, rfl, .inr (SqT.of upd_same), rfl, rfl, _, rfl, ?_⟩⟩
    show (if inV (.str ⟨#[c]⟩) [.str "r", .str "n"] = true then _ else _)
    rw [sg_in (a := 114) (b := 110) (by decide +kernel) (by decide +kernel)]
    have e1 := Evl.Ex.new (o := .tup [.str "r", .str "n"]) h1
    refine ite2 (fun k1 => ?_) (fun k1 => ?_)
    · refine ⟨_, rfl, x, d, 0, 9, rfl, hd.ext e1, hk, fun H' e => ?_⟩
      have q := hQ H' (e1.trans e)
      rw [show fitsC c d = inR 0 9 d from if_pos (of_decide_eq_true k1)] at q
      exact q
    have k1' : ¬ (c = 114 ∨ c = 110) := fun z => k1 (decide_eq_true z)
    refine ⟨_, rfl, rfl, _, rfl, ?_⟩
    rw [sg_eq (k := 106) (by decide +kernel)]
    refine ite2 (fun k2 => ?_) (fun k2 => ?_)
    · refine ⟨_, rfl, _, _, rfl, rfl, x, d, 0, 39, rfl, hd.ext e1, hk, fun H' e => ?_⟩
      have q := hQ H' (e1.trans e)
      rw [show fitsC c d = inR 0 39 d from by unfold fitsC; rw [if_neg k1', if_pos (of_decide_eq_true k2)]] at q
      exact q
    have k2' : ¬ c = 106 := fun z => k2 (decide_eq_true z)
    refine ⟨_, rfl, le_line (by simp), fun t2 h2 => ⟨t2, _, rfl, .inr (SqT.of upd_same), rfl, rfl, _, rfl, ?_⟩⟩
    show (if inV (.str ⟨#[c]⟩) [.str "c", .str "f"] = true then _ else _)
    rw [sg_in (a := 99) (b := 102) (by decide +kernel) (by decide +kernel)]
    have e2 := e1.trans (Evl.Ex.new (o := .tup [.str "c", .str "f"]) h2)
    refine ite2 (fun k3 => ?_) (fun k3 => ?_)
    · refine ⟨_, rfl, x, d, rfl, hd.ext e2, hk, fun H' e => ?_⟩
      have q := hQ H' (e2.trans e)
      rw [show fitsC c d = nameD d from by unfold fitsC; rw [if_neg k1', if_neg k2', if_pos (of_decide_eq_true k3)]] at q
      exact q
    have k3' : ¬ (c = 99 ∨ c = 102) := fun z => k3 (decide_eq_true z)
    refine ⟨_, rfl, rfl, _, rfl, ?_⟩
    rw [sg_eq (k := 116) (by decide +kernel)]
    refine ite2 (fun k4 => ?_) (fun k4 => ?_)
    · refine ⟨_, rfl, x, d, rfl, hd.ext e2, hk, fun H' e => ?_⟩
      have q := hQ H' (e2.trans e)
      rw [show fitsC c d = typeD d from by unfold fitsC; rw [if_neg k1', if_neg k2', if_neg k3', if_pos (of_decide_eq_true k4)]] at q
      exact q
    have k4' : ¬ c = 116 := fun z => k4 (decide_eq_true z)
    have q0 : ∀ H', Evl.Ex (upd (upd H t1 (.tup [.str "r", .str "n"])) t2 (.tup [.str "c", .str "f"])) H' → Q (.bl (tupAll (elC c) d)) H' := fun H' e => by
      have q := hQ H' (e2.trans e)
      unfold fitsC at q
      rw [if_neg k1', if_neg k2', if_neg k3', if_neg k4'] at q
      exact q
    have hd2 := hd.ext e2
    generalize (upd (upd H t1 (.tup [.str "r", .str "n"])) t2 (.tup [.str "c", .str "f"])) = H2 at q0 hd2
    refine ⟨_, rfl, _, _, _, _, _, rfl, .ty "tuple", ty_of hd2, kit_ty (kit_tupD d), _, rfl, ?_⟩
    cases d with
    | tuple ds =>
      obtain ⟨a, xs, rfl, ha, hall⟩ := hd2.tupI
      refine iteF ⟨_, rfl, _, _, rfl, .inr ⟨_, SqT.of ha, rfl⟩, _, _, rfl, rfl, _, rfl, ?_⟩
      have hl : xs.length = ds.length := EX2.DqAll.length hall
      refine ite2 (fun k5 => ?_) (fun k5 => ?_)
      · have k5' : ¬ ds.length ≤ 4 := by have := of_decide_eq_true k5; omega
        have q := q0 H2 (Evl.Ex.refl _)
        change Q (.bl (decide (ds.length ≤ 4) && ds.all (elC c))) H2 at q
        rw [decide_eq_false k5', Bool.false_and] at q
        exact q
      · have k5' : ds.length ≤ 4 := by
          apply Decidable.byContradiction
          intro z
          exact k5 (decide_eq_true (by omega))
        refine ⟨_, rfl, _, rfl, ⟨_, SqT.of ha⟩, fun D hD => ?_⟩
        refine EX2.lc_map (walk_tup (xs := xs)) hD (fun H' e => SqT.of (e _ _ ha)) (fun j => .bl ((elC c) (ds.getD j .none))) (by omega) (fun j H3 x H4 _ _ y => by rw [y.1]; exact Evl.Ex.refl _) ?_ ?_
        · rintro j x H3 H4 hj e3 _ ⟨rfl, hx⟩ Qt hQt
          obtain ⟨dj, hdj, hxj⟩ := hall.get hx
          have hkj : okD dj = true := okAll_mem hk dj (List.mem_of_getElem? hdj)
          have egd : ds.getD j .none = dj := by rw [List.getD_eq_getElem?_getD, hdj]; rfl
          rw [egd] at hQt
          refine ⟨rfl, _, rfl, rfl, _, rfl, ?_⟩
          rw [sg_eq (k := 121) (by decide +kernel)]
          refine ite2 (fun k6 => ?_) (fun k6 => ?_)
          · refine ⟨_, rfl, x, dj, rfl, hxj.ext e3, hkj, fun H5 e5 => ?_⟩
            have q := hQt H5 e5
            rw [elC, if_pos (of_decide_eq_true k6)] at q
            exact q
          · refine ⟨_, rfl, x, dj, 0, 9, rfl, hxj.ext e3, hkj, fun H5 e5 => ?_⟩
            have q := hQt H5 e5
            rw [elC, if_neg (fun z => k6 (decide_eq_true z))] at q
            exact q
        · intro H3 e3 hD3
          refine ⟨D, (List.range xs.length).map fun j => ((elC c) (ds.getD j .none)), rfl, SqL.of ?_, ?_⟩
          · rw [hD3, List.map_map]
            rfl
          · have q := q0 H3 e3
            change Q (.bl (decide (ds.length ≤ 4) && ds.all (elC c))) H3 at q
            rw [decide_eq_true k5', Bool.true_and] at q
            rw [hl, EX2.map_range_get ds (elC c) _ (fun i e he => by rw [List.getD_eq_getElem?_getD, he]; rfl), List.all_map]
            exact q
    | _ => exact iteT (q0 H2 (Evl.Ex.refl _))
end
end K07
set_option Elab.async false
set_option linter.all false
set_option maxRecDepth 100000
set_option maxHeartbeats 0
namespace EX2
open PySem PySem.Spec PyProof.Rows L2
/-- d[key], d a dict of the module -/
theorem pe_kd {X : Cx} {o i : Expr} {td ty : TE} {d : Addr} {es : Array DictEntry} {n : Nat} {pos : Pos} (D : KDict X.K X.w d es n) (ho : PE X o td) (hi : PE X i ty) (hs : NoSl i) :
    PE X (.Subscript o i pos) (tOp (fun x y H Q => ∃ (z : Str) (u0 : Value) (v0 : V), x = .ref d ∧ y = .str z ∧ PySem.W.nsIn X.K d z = some (some u0) ∧ RelV v0 u0 ∧ Q v0 H) td ty) := by
  refine ⟨fun pins s σ H Q I h => ?_⟩
  refine subD_of PySem.F.slot_dict_getitem.lookup hs (thn (ho.run pins s σ H _ I h) fun u s1 ⟨x, H1, I1, rx, q1⟩ => thn (hi.run pins s1 σ H1 _ I1 q1) fun iv s2 ⟨y, H2, I2, ry, q2⟩ => ?_)
  obtain ⟨z, u0, v0, ex, q3⟩ := id q2
  subst ex
  obtain rfl : u = Value.ref d := rx
  exact ⟨kd_type D I2, op_item_kd D pins s2 σ H2 (.ref d) y (.ref d) iv Q I2 rfl ry q2⟩
end EX2
namespace K07
open PySem PySem.Spec PyProof.Rows L2
def lenD : PyData → Nat
  | .tuple ds => ds.length
  | _ => 0
def insT (z : Str) (ds : List PyData) : Bool := match K07.forms.lookup z with
  | some fm => (decide (ds.length = fm.length) && (List.range fm.length).all fun i => fitsC (fm.cps.toList.getD i 0) (ds.getD i .none)) && (!(z == "call" || z == "ask") || decide (lenD (ds.getD 4 .none) = lenD (ds.getD 6 .none)))
  | none => false
def insD : PyData → Bool
  | .tuple (.str z :: ds) => insT z ds
  | _ => false
theorem forms_ok : ∀ p ∈ K07.forms, p.2.length ≤ 7 ∧ p.2.cps.all (· < 128) = true ∧ (p.1 = "call" ∨ p.1 = "ask" → p.2 = "rrcfytx") := by decide +kernel
theorem at0 {x : V} {xs : List V} : L2.atI (x :: xs) 0 = some x := atI_nat (j := 0) (xs := x :: xs) rfl
theorem cut1 (x : V) (xs : List V) : cutV (x :: xs) (some 1) none = xs ∧ HT.sIx (x :: xs).length 0 (some 1) = 1 := by
  have e : HT.sIx (x :: xs).length 0 (some 1) = 1 := by
    unfold HT.sIx
    show (if (1 : Int) < 0 then _ else _) = _
    rw [if_neg (by decide)]
    simp
  refine ⟨?_, e⟩
  unfold cutV
  rw [e, HT.sIx_none]
  simp
theorem inV2 (z a b : Str) : inV (.str z) [.str a, .str b] = (z == a || z == b) := by
  show ((a == z) || ((b == z) || false)) = _
  rw [Bool.or_false, show (a == z) = (z == a) from Bool.eq_iff_iff.mpr (by rw [beq_iff_eq, beq_iff_eq, eq_comm]), show (b == z) = (z == b) from Bool.eq_iff_iff.mpr (by rw [beq_iff_eq, beq_iff_eq, eq_comm])]
theorem fits_tup {c : Nat} {d : PyData} (hc : c = 120 ∨ c = 121) (h : fitsC c d = true) : ∃ l, d = .tuple l := by
  unfold fitsC at h
  rw [if_neg (by omega), if_neg (by omega), if_neg (by omega), if_neg (by omega)] at h
  cases d with
  | tuple l => exact ⟨l, rfl⟩
  | _ => cases h
theorem lookup_mem {z fm : Str} : ∀ {l : List (Str × Str)}, l.lookup z = some fm → (z, fm) ∈ l
  | [], h => by cases h
  | (a, b) :: l, h => by
    rw [List.lookup_cons] at h
    by_cases e : z = a
    · subst e
      simp at h
      subst h
      exact List.mem_cons_self
    · have : (z == a) = false := by simp [e]
      rw [this] at h
      exact List.mem_cons_of_mem _ (lookup_mem h)
section
variable {P : Program} {w : World} {K : PySem.W.Frag} {mg : Str → Option Value} {base : Heap} {f : Addr} {fd : FuncData}
abbrev nis_instruction : List Str := ["value", "form", "sign", "item"]
theorem scis_instruction : FnScope nis_instruction ["value"] (defScope sis_instruction) := ⟨rfl, rfl, rfl, by decide +kernel, rfl, by decide +kernel, by decide +kernel⟩
theorem ok_ins (F : FnP K "is_instruction" sis_instruction f fd) (D : Defs w K mg) : FnOk P w K mg base CX0 4 f fd ["value"] (spD insD) := by
  have T := D.t
  obtain ⟨es, n, kd⟩ := D.kd
  obtain ⟨ffits, fdfits, gfits, Ffits⟩ := D.fits
  have Gfits : FnOk P w K mg base CX0 3 ffits fdfits ["sign", "item"] spFits := ok_fits Ffits D
  have bfits : Binds K fdfits ["sign", "item"] [] := Ffits.bindsN fun _ _ _ _ _ _ us hl => match us, hl with | [_, _], _ => rfl
  refine F.ok scis_instruction spD_len (fun cdv A outer s H vs Q E hr h => ?_)
  obtain ⟨x, d, rfl, hd, hk, hQ⟩ := h
  refine ⟨_, PSs.nox (pss_cons (ps_if (PW.pt (pw_or (pt_not (pt_val (pe_callB call_isi rfl T.isi boot_isi (pa_cons (pv 0) (pa_cons (pe_bltn rfl T.tup boot_tuple (v := .ty "tuple") rfl) pa_nil))))) (pw_or (pt_cmpR (EX2.op_eq_tup0 (Nat.lt_of_le_of_lt (Nat.le_add_right _ 64) hr.units)) (pv 0) (pe_tup pa_nil) (nomark _)) (pw_or (pt_not (pt_val (pe_callB call_isi rfl T.isi boot_isi (pa_cons (pe_ix ix_tup (pv 0) pe_int (fun _ _ => rfl)) (pa_cons (pe_bltn rfl T.str boot_str (v := .ty "str") rfl) pa_nil))))) (pw_or1 (pt_cmpR (op_notIn_kd kd) (pe_ix ix_tup (pv 0) pe_int (fun _ _ => rfl)) (pe_glob rfl D.forms (v := .ref (He.ga K "FORMS")) rfl) (by rfl)))))))
        (pss_one (ps_ret pe_bl))
        pss_nil)
      (pss_cons (ps_set (i := 1) scis_instruction.nd rfl (Or.inl rfl) (EX2.pe_kd kd (pe_glob rfl D.forms (v := .ref (He.ga K "FORMS")) rfl) (pe_ix ix_tup (pv 0) pe_int (fun _ _ => rfl)) (fun _ _ => rfl)))
      (pss_cons (ps_if (PW.pt (pw_or (pt_cmpR op_ne (pe_callB call_len rfl T.len boot_len (pa_cons (pv 0) pa_nil)) (pe_op op_add (pe_callB call_len rfl T.len boot_len (pa_cons (pv 1) pa_nil)) pe_int) (nomark _)) (pw_or1 (pt_not (pt_val (pe_callB (cr_all rfl) rfl T.all boot_all (pa_cons (pe_lc (own := [("sign", 2), ("item", 3)]) (g := gTup K 2 (gCons (gName 2) (gCons (gName 3) gNil))) (tt := tYes) rfl scis_instruction.nd (ZS.pi_zipS rfl T.zip (pa_cons (pv 1) (pa_cons (pe_slice sl_tup (pv 0) (po_some pe_int) po_none) pa_nil))) (blkOk_by (N := nis_instruction) (sc := defScope sis_instruction) (by decide +kernel)) (fun _ _ _ _ _ => (pg_tup rfl (pgs_cons (pg_name (i := 2) scis_instruction.nd rfl (Or.inl rfl)) (pgs_cons (pg_name (i := 3) scis_instruction.nd rfl (Or.inl rfl)) pgs_nil)))) (fun _ _ _ _ _ => pts_nil) (fun _ _ _ _ _ => (pe_call Gfits (hr.mono (by decide)) rfl gfits Ffits.kp bfits .nil pass0 (pa_cons (pv 2) (pa_cons (pv 3) pa_nil))))) pa_nil)))))))
        (pss_one (ps_ret pe_bl))
        pss_nil)
      (pss_one (ps_ret (pe_or (pe_cmpR op_notIn_seq (pe_ix ix_tup (pv 0) pe_int (fun _ _ => rfl)) (pe_tup (pa_cons pe_str (pa_cons pe_str pa_nil))) (by rfl)) (pe_one (pe_cmpR op_eq (pe_callB call_len rfl T.len boot_len (pa_cons (pe_ix ix_tup (pv 0) pe_int (fun _ _ => rfl)) pa_nil)) (pe_callB call_len rfl T.len boot_len (pa_cons (pe_ix ix_tup (pv 0) pe_int (fun _ _ => rfl)) pa_nil)) (nomark _))))))))), ?_⟩
  refine ⟨_, rfl, _, _, _, _, _, rfl, .ty "tuple", ty_of hd, kit_ty (kit_tupD d), _, rfl, ?_⟩
  have q0 := hQ H (Evl.Ex.refl H)
  cases d with
  | tuple ds =>
    obtain ⟨a, xs, rfl, ha, hall⟩ := hd.tupI
    refine iteF ⟨_, rfl, Nat.zero_le _, fun p0 hp0 => ?_⟩
    have e0 := Evl.Ex.new (o := .tup []) hp0
    refine ⟨_, _, xs, rfl, rfl, SqT.of (e0 _ _ ha), SqT.of upd_same, _, rfl, ?_⟩
    cases ds with
    | nil =>
      cases hall
      exact iteT (hQ _ e0)
    | cons d0 ds =>
      cases hall with
      | @cons x0 xs _ _ h0 ht =>
      have hd1 := e0 _ _ ha
      have h01 := h0.ext e0
      have ht1 := ht.ext e0
      have q1 : ∀ H', Evl.Ex (upd H p0 (.tup [])) H' → Q (.bl (insD (.tuple (d0 :: ds)))) H' := fun H' e => hQ H' (e0.trans e)
      generalize (upd H p0 (.tup [])) = H1 at hd1 h01 ht1 q1
      refine iteF ⟨_, rfl, _, _, 0, x0, rfl, rfl, SqT.of hd1, at0, _, _, _, _, _, rfl, .ty "str", ty_of h01, kit_ty (kit_strD d0), _, rfl, ?_⟩
      cases d0 with
      | str z =>
        cases h01
        have hkd : okD (.str z) = true ∧ okAll ds = true := by
          simp only [okD, okAll, Bool.and_eq_true] at hk ⊢
          exact hk
        refine iteF ⟨_, rfl, _, _, 0, .str z, rfl, rfl, SqT.of hd1, at0, ?_⟩
        rcases D.look z with ⟨fm, tk, hl, hns⟩ | ⟨hl, hns⟩
        · have hins : insD (.tuple (.str z :: ds)) = ((decide (ds.length = fm.length) && (List.range fm.length).all fun i => fitsC (fm.cps.toList.getD i 0) (ds.getD i .none)) && (!(z == "call" || z == "ask") || decide (lenD (ds.getD 4 .none) = lenD (ds.getD 6 .none)))) := by
            show insT z ds = _
            unfold insT
            rw [hl]
          rw [hins] at q1
          obtain ⟨hf1, hf2, hf3⟩ := forms_ok _ (lookup_mem hl)
          dsimp only at hf1 hf2 hf3
          refine ⟨z, _, rfl, rfl, hns, _, rfl, iteF ?_⟩
          refine ⟨_, rfl, _, _, 0, .str z, rfl, rfl, SqT.of hd1, at0, z, _, .str fm, rfl, rfl, hns, ⟨tk, rfl⟩, ?_⟩
          have hl1 : xs.length = ds.length := EX2.DqAll.length ht1
          refine ⟨_, rfl, _, _, rfl, .inr ⟨_, SqT.of hd1, rfl⟩, _, rfl, _, _, rfl, ⟨le_line (Nat.le_trans hf1 (by decide)), rfl⟩, _, _, rfl, rfl, rfl, _, rfl, ?_⟩
          by_cases hlen : ds.length = fm.length
          · have elen : (!decide (V.int ((V.str z :: xs).length : Nat) = V.int ((fm.length : Nat) + 1))) = false := by
              rw [decide_eq_true]
              · rfl
              · rw [List.length_cons, hl1, hlen]; rfl
            rw [elen]
            refine iteF ⟨_, rfl, _, rfl, 1, rfl, _, _, rfl, SqT.of hd1, ?_, fun p1 hp1 => ?_⟩
            · rw [(cut1 _ _).2]
              omega
            rw [(cut1 _ _).1]
            have e1 := Evl.Ex.new (o := .tup xs) hp1
            refine ⟨fm, p1, xs, rfl, hf2, SqT.of upd_same, fun D hD => ?_⟩
            have hp1s : (upd H1 p1 (.tup xs)) p1 = some (.tup xs) := upd_same
            refine EX2.lc_map (ZS.walk_zipS (z := fm) (ys := xs) (n := fm.length) ?_) hD (fun H' e => SqT.of (e _ _ hp1s)) (fun i => .bl (fitsC (fm.cps.toList.getD i 0) (ds.getD i .none))) (Nat.le_trans hf1 (by decide)) ?_ ?_ ?_
            · show fm.cps.size = _
              rw [hl1, hlen]
              exact (Nat.min_self _).symm
            · rintro j H3 x H4 _ _ ⟨T, x1, y1, rfl, hT, rfl, _⟩
              exact Evl.Ex.new hT
            · rintro j x H3 H4 hj e3 e4 ⟨T0, x1, y1, rfl, hT, rfl, hx1, hy1⟩ Qt hQt
              obtain ⟨c, hc, rfl⟩ : ∃ c, fm.cps[j]? = some c ∧ x1 = .str ⟨#[c]⟩ := by
                have hx1 : (fm.cps[j]?.map fun c => V.str ⟨#[c]⟩) = some x1 := hx1
                cases hz : fm.cps[j]? with
                | none => rw [hz] at hx1; cases hx1
                | some c => rw [hz] at hx1; exact ⟨c, rfl, (Option.some.inj hx1).symm⟩
              obtain ⟨dj, hdj, hxj⟩ := ht1.get hy1
              have hkj : okD dj = true := okAll_mem hkd.2 dj (List.mem_of_getElem? hdj)
              have eg1 : fm.cps.toList.getD j 0 = c := by rw [List.getD_eq_getElem?_getD, Array.getElem?_toList, hc]; rfl
              have eg2 : ds.getD j .none = dj := by rw [List.getD_eq_getElem?_getD, hdj]; rfl
              rw [eg1, eg2] at hQt
              refine ⟨T0, _, rfl, SqT.of upd_same, rfl, _, _, rfl, _, _, rfl, rfl, ?_⟩
              exact ⟨rfl, _, rfl, _, rfl, c, y1, dj, rfl, hxj.ext (e1.trans e4), hkj, hQt⟩
            · intro H3 e3 hD3
              refine ⟨D, (List.range fm.length).map fun i => fitsC (fm.cps.toList.getD i 0) (ds.getD i .none), rfl, SqL.of ?_, ?_⟩
              · rw [hD3, List.map_map]
                rfl
              rw [List.all_map, show (id ∘ fun i => fitsC (fm.cps.toList.getD i 0) (ds.getD i .none)) = fun i => fitsC (fm.cps.toList.getD i 0) (ds.getD i .none) from rfl]
              have q3 : ∀ H', Evl.Ex H3 H' → _ := fun H' e => q1 H' ((e1.trans e3).trans e)
              rw [decide_eq_true hlen, Bool.true_and] at q3
              have hd3 := (e1.trans e3) _ _ hd1
              have ht3 := ht1.ext (e1.trans e3)
              cases hall2 : (List.range fm.length).all fun i => fitsC (fm.cps.toList.getD i 0) (ds.getD i .none) with
              | false =>
                rw [hall2, Bool.false_and] at q3
                exact ⟨_, rfl, iteT (q3 _ (Evl.Ex.refl _))⟩
              | true =>
                rw [hall2, Bool.true_and] at q3
                refine ⟨_, rfl, iteF ?_⟩
                refine ⟨_, rfl, _, _, 0, .str z, rfl, rfl, SqT.of hd3, at0, le_line (by simp), fun t4 ht4 => ⟨t4, _, rfl, .inr (SqT.of upd_same), rfl, rfl, _, rfl, ?_⟩⟩
                have e4 := Evl.Ex.new (o := .tup [.str "call", .str "ask"]) ht4
                have q4 := fun H' e => q3 H' (e4.trans e)
                have hd4 := e4 _ _ hd3
                have ht4' := ht3.ext e4
                show (if (!inV (.str z) [.str "call", .str "ask"]) = true then _ else _)
                rw [inV2]
                generalize (upd H3 t4 (.tup [.str "call", .str "ask"])) = H4 at q4 hd4 ht4'
                cases hca : (z == "call" || z == "ask") with
                | false =>
                  rw [hca] at q4
                  exact iteT (q4 _ (Evl.Ex.refl _))
                | true =>
                  rw [hca] at q4
                  have hz : z = "call" ∨ z = "ask" := by
                    rw [Bool.or_eq_true, beq_iff_eq, beq_iff_eq] at hca
                    exact hca
                  have hfm := hf3 hz
                  subst hfm
                  have l7 : ds.length = 7 := hlen
                  rw [List.all_eq_true] at hall2
                  have h4 := hall2 4 (by decide +kernel)
                  have h6 := hall2 6 (by decide +kernel)
                  rw [show ("rrcfytx" : Str).cps.toList.getD 4 0 = 121 from by decide +kernel] at h4
                  rw [show ("rrcfytx" : Str).cps.toList.getD 6 0 = 120 from by decide +kernel] at h6
                  obtain ⟨l4, e5⟩ := fits_tup (.inr rfl) h4
                  obtain ⟨l6, e6⟩ := fits_tup (.inl rfl) h6
                  have g4 : ds[4]? = some (.tuple l4) := by
                    rw [List.getD_eq_getElem?_getD, List.getElem?_eq_getElem (by omega)] at e5
                    rw [List.getElem?_eq_getElem (by omega)]
                    exact congrArg some e5
                  have g6 : ds[6]? = some (.tuple l6) := by
                    rw [List.getD_eq_getElem?_getD, List.getElem?_eq_getElem (by omega)] at e6
                    rw [List.getElem?_eq_getElem (by omega)]
                    exact congrArg some e6
                  obtain ⟨x4, gx4, dx4⟩ := ht4'.getD g4
                  obtain ⟨x6, gx6, dx6⟩ := ht4'.getD g6
                  obtain ⟨a4, ys4, rfl, ha4, hal4⟩ := dx4.tupI
                  obtain ⟨a6, ys6, rfl, ha6, hal6⟩ := dx6.tupI
                  refine iteF ⟨_, rfl, _, _, 5, .ref a4, rfl, rfl, SqT.of hd4, atI_nat (j := 5) gx4, _, _, rfl, .inr ⟨_, SqT.of ha4, rfl⟩, _, rfl, _, _, 7, .ref a6, rfl, rfl, SqT.of hd4, atI_nat (j := 7) gx6, _, _, rfl, .inr ⟨_, SqT.of ha6, rfl⟩, rfl, ?_⟩
                  have q5 := q4 _ (Evl.Ex.refl _)
                  rw [e5, e6] at q5
                  rw [EX2.DqAll.length hal4, EX2.DqAll.length hal6]
                  rw [show decide (V.int ((l4.length : Nat) : Int) = V.int ((l6.length : Nat) : Int)) = decide (l4.length = l6.length) from decide_eq_decide.mpr ⟨fun e => by have := V.int.inj e; omega, fun e => by rw [e]⟩]
                  exact q5
          · have elen : (!decide (V.int ((V.str z :: xs).length : Nat) = V.int ((fm.length : Nat) + 1))) = true := by
              rw [decide_eq_false]
              · rfl
              · rw [List.length_cons, hl1]; intro e; apply hlen; have := V.int.inj e; omega
            rw [elen]
            rw [decide_eq_false hlen, Bool.false_and, Bool.false_and] at q1
            exact iteT (q1 _ (Evl.Ex.refl _))
        · have hins : insD (.tuple (.str z :: ds)) = false := by
            show insT z ds = _
            unfold insT
            rw [hl]
          rw [hins] at q1
          exact ⟨z, _, rfl, rfl, hns, _, rfl, iteT (q1 _ (Evl.Ex.refl _))⟩
      | _ => exact iteT (q1 _ (Evl.Ex.refl _))
  | _ => exact iteT q0
end
end K07
set_option Elab.async false
set_option linter.all false
set_option maxRecDepth 100000
set_option maxHeartbeats 4000000
/-! d.update(d2) of int and text keys; == [] and != [] of any list -/
namespace EX2
open PySem PySem.Spec PyProof.Rows L2
def rDUpd : V → List V → Hp → VK → Prop := fun x vs H Q => ∃ (a b : Addr) (kvs more : List (Key × V)), x = .ref a ∧ vs = [.ref b] ∧ a ≠ b ∧ H a = some (.dK kvs) ∧ H b = some (.dK more) ∧ kvs.length + more.length ≤ sizeLine ∧ Q .non (upd H a (.dK (mergeK kvs more)))
theorem mtd_update {X : Cx} : MtR X "dict.update" rDUpd := by
  intro pins s σ H x vs v us Q I rx rv h
  obtain ⟨a, b, kvs, more, ex, ev, hne, ea, eb, hsz, q⟩ := h
  subst ex
  subst ev
  obtain rfl : v = Value.ref a := rx
  obtain ⟨u, rfl, ru⟩ := vals1 rv
  obtain rfl : u = Value.ref b := ru
  obtain ⟨z1, hd1, vs1, r1, dd1⟩ := dk_of I.hok ea
  obtain ⟨z2, hd2, vs2, r2, dd2⟩ := dk_of I.hok eb
  have l1 : kvs.length = vs1.length := Paired.length r1
  have l2 : more.length = vs2.length := Paired.length r2
  refine call_meetsIn PySem.F.slot_dict_update dd1.typeIs PySem.F.entry_dict_update (PySem.F.args_dict_update_2 _ _) (meets_dict_update (mixKind X.prog X.w) a b hne hd2)
    ⟨vs1, vs2, dd1, dd2, by rw [← l1, ← l2]; exact hsz, fun h' dd' _ hs => ⟨.non, _, ?_, rfl, q⟩⟩
  have he : ∃ q, h'.get? a = some q := let ⟨q, _, _, hq, _⟩ := dd'; ⟨q, hq⟩
  have hl : (mergeK kvs more).length ≤ sizeLine := Nat.le_trans (length_mergeK more kvs) hsz
  exact d_write (t' := s.toks) I (by rw [ea]; exact True.intro) hs he (dk_new hl hd1 (KV.merge r2 r1) dd')
section
variable {X : Cx} {o e : Expr} {to te : TE} {apos cpos : Pos}
theorem pe_dupd (ho : PE X o to) (ha : PE X e te) (hbase : attributeBase o "update" X.env (eval o X.env) = eval o X.env := by rfl)
    (hfew : ((backTo cpos (starEach [e] X.env)).all (fun x => !x.1) && (backToKw cpos (keywordEach [] X.env)).all (fun x => x.1.isSome)
      && decide ([e].length + ([] : List Keyword).length + (if ([] : List Keyword).isEmpty then 0 else 1) < 30)) = true := by rfl)
    (hline : (apos.endLine == cpos.line) = true := by rfl) (hs : starEach [e] X.env = (false, eval e X.env) :: starEach [] X.env := by rfl) :
    PE X (.Call (.Attribute o "update" apos) [e] [] cpos) (tBM X.K "dict" rDUpd to (tCons te tNil)) :=
  pe_bm PySem.F.plainAttrs_dict PySem.F.slot_dict_update PySem.F.type_dict_update mtd_update ho (pa_cons ha pa_nil hs) hbase hfew hline hs
end
section
variable {X : Cx}
def rL0 (K : PySem.W.Frag) (neg : Bool) : R2 := fun x y H Q => ∃ (a b : Addr) (xs : List V), x = .ref a ∧ y = .ref b ∧ SqL K H a xs ∧ SqL K H b [] ∧ Q (.bl (if neg then !xs.isEmpty else xs.isEmpty)) H
theorem op_eq_lst0 (hu : X.A.units < cLine) : OpR X (compareOp .Eq) (rL0 X.K false) := by
  intro pins s σ H x y v u Q I rx ry h
  obtain ⟨a, b, xs, rfl, rfl, ha, hb, q⟩ := h
  cases rx
  cases ry
  obtain ⟨its, rv, ht, hz⟩ := I.list ha
  obtain ⟨its2, rv2, ht2, hz2⟩ := I.list hb
  have l1 := rv.length
  have l2 := rv2.length
  have e2 : its2 = [] := List.length_eq_zero_iff.mp (by simpa using l2.symm)
  subst e2
  cases xs with
  | nil =>
    have e1 : its = [] := List.length_eq_zero_iff.mp (by simpa using l1.symm)
    subst e1
    exact SeqAt.eq_listAt (e := fun _ => true) ht.isList ht2.isList rfl hu (fun j h1 h2 => absurd h2 (by simp)) ⟨.bl _, H, I, rfl, q⟩
  | cons x xs =>
    refine SeqAt.eq_list_lengthsAt ht.isList ht2.isList ?_ hu ⟨.bl _, H, I, rfl, q⟩
    cases its with
    | nil => simp at l1
    | cons y ys => simp
theorem op_ne_lst0 (hu : X.A.units < cLine) : OpR X (compareOp .NotEq) (rL0 X.K true) := by
  intro pins s σ H x y v u Q I rx ry h
  obtain ⟨a, b, xs, rfl, rfl, ha, hb, q⟩ := h
  cases rx
  cases ry
  obtain ⟨its, rv, ht, hz⟩ := I.list ha
  obtain ⟨its2, rv2, ht2, hz2⟩ := I.list hb
  have l1 := rv.length
  have l2 := rv2.length
  have e2 : its2 = [] := List.length_eq_zero_iff.mp (by simpa using l2.symm)
  subst e2
  cases xs with
  | nil =>
    have e1 : its = [] := List.length_eq_zero_iff.mp (by simpa using l1.symm)
    subst e1
    exact (SeqAt.RcNeAt.lists (e := fun _ => true) ht.isList ht2.isList rfl hu (fun j h1 h2 => absurd h2 (by simp))) X.prog X.w _ _ ⟨.bl _, H, I, rfl, q⟩
  | cons x xs =>
    refine (SeqAt.RcNeAt.lists_lengths ht.isList ht2.isList ?_ hu) X.prog X.w _ _ ⟨.bl _, H, I, rfl, q⟩
    cases its with
    | nil => simp at l1
    | cons y ys => simp
end
section
variable {J : It} {n : Nat} {G : Hp → Prop} {Y : Nat → Hp → V → Hp → Prop}
/-- a comprehension with a test, the heap growing -/
theorem lc_filt (w : Walk J n G Y) {g : TG} {tt : TT} {te : TE} {vs : List Nat} {σ : L2.St} {H1 : Hp} {D : Addr} {Qd : Hp → Prop} (hD : H1 D = none) (hG : ∀ H', Evl.Ex H1 H' → G H') (b : Nat → Bool) (v : Nat → V) (hz : n ≤ 100000)
    (hY : ∀ j H2 x H3, j < n → Evl.Ex H1 H2 → Y j H2 x H3 → Evl.Ex H2 H3)
    (hs : ∀ j x H2 H3, j < n → Evl.Ex H1 H2 → Evl.Ex H1 H3 → Y j H2 x H3 → ∀ (Qa : V → Hp → Prop) (Qb : Hp → Prop), (∀ H4, Evl.Ex H3 H4 → b j = true → Qa (v j) H4) → (∀ H4, Evl.Ex H3 H4 → b j = false → Qb H4) →
      g x (wipe σ vs) H3 fun σ2 H4 => wipe σ2 vs = wipe σ vs ∧ tt σ2 H4 fun bb H5 => if bb = true then te σ2 H5 Qa else Qb H5)
    (hd : ∀ H', Evl.Ex H1 H' → H' D = some (.lst (((List.range n).filter b).map v)) → Qd H') :
    ∃ W : Nat → Nat → Hp → Prop, (∃ m, W 0 m (upd H1 D (.lst []))) ∧ ∀ i m H, W i m H →
      (J.stop i H ∧ Qd H) ∨ (J.go i H ∧ ∃ Nx : Hp → Prop, (∀ H', Nx H' → ∃ m', m' < m ∧ W (i + 1) m' H') ∧ ∀ x H', J.yld i H x H' → g x (wipe σ vs) H' fun σ2 H2 => wipe σ2 vs = wipe σ vs ∧ tt σ2 H2 fun b H3 =>
        if b = true then te σ2 H3 fun y H4 => ∃ acc, H4 D = some (.lst acc) ∧ acc.length < sizeLine ∧ Nx (upd H4 D (.lst (acc ++ [y]))) else Nx H3) := by
  refine lc_it w (fun j H' => Evl.Ex H1 H' ∧ H' D = some (.lst (((List.range j).filter b).map v))) ⟨Evl.Ex.new hD, upd_same⟩ (fun i H hi p => hG H p.1) ?_ (fun H p => hd H p.1 p.2)
  rintro j x H2 H3 hj ⟨e, hd2⟩ hy
  have e3 := hY j H2 x H3 hj e hy
  refine hs j x H2 H3 hj e (e.trans e3) hy _ _ (fun H4 e4 hb => ?_) (fun H4 e4 hb => ?_)
  · refine ⟨_, e4 _ _ (e3 _ _ hd2), ?_, ((e.trans e3).trans e4).mut hD, ?_⟩
    · rw [List.length_map]
      have := List.length_filter_le b (List.range j)
      rw [List.length_range] at this
      exact Evl.sz_lt (by omega)
    · rw [upd_same, List.range_succ, List.filter_append, List.map_append]
      simp [hb]
  · refine ⟨(e.trans e3).trans e4, ?_⟩
    rw [e4 _ _ (e3 _ _ hd2), List.range_succ, List.filter_append, List.map_append]
    simp [hb]
end
theorem filt_empty {n : Nat} {b : Nat → Bool} {v : Nat → V} : (((List.range n).filter b).map v).isEmpty = (List.range n).all fun i => !b i := by
  induction n with
  | zero => rfl
  | succ n ih =>
    rw [List.range_succ, List.filter_append, List.map_append, List.all_append, ← ih]
    cases hb : b n <;> simp [hb]
end EX2
set_option Elab.async false
set_option linter.all false
set_option maxRecDepth 100000
set_option maxHeartbeats 4000000
/-! data without lists; comprehensions that draw; a list or a tuple walked -/
namespace EX2
open PySem PySem.Spec PyProof.Rows L2
mutual
def noL : PyData → Bool
  | .list _ => false
  | .dict _ => false
  | .tuple ds => noLs ds
  | _ => true
def noLs : List PyData → Bool
  | [] => true
  | d :: ds => noL d && noLs ds
end
theorem noLs_mem {ds : List PyData} (h : noLs ds = true) : ∀ d ∈ ds, noL d = true := by
  induction ds with
  | nil => intro d hd; cases hd
  | cons e es ih =>
    simp only [noLs, Bool.and_eq_true] at h
    intro d hd
    rcases List.mem_cons.mp hd with rfl | hd
    · exact h.1
    · exact ih h.2 d hd
theorem noLs_of {ds : List PyData} (h : ∀ d ∈ ds, noL d = true) : noLs ds = true := by
  induction ds with
  | nil => rfl
  | cons e es ih =>
    simp only [noLs, Bool.and_eq_true]
    exact ⟨h e List.mem_cons_self, ih fun d hd => h d (List.mem_cons_of_mem _ hd)⟩
theorem noLs_app {a b : List PyData} (ha : noLs a = true) (hb : noLs b = true) : noLs (a ++ b) = true :=
  noLs_of fun d hd => (List.mem_append.mp hd).elim (noLs_mem ha d) (noLs_mem hb d)
section
variable {H : Hp} {D : Addr} {o : HO} {l : List V}
mutual
theorem Dq.mutD (hD : H D = some (.lst l)) : ∀ {x : V} {d : PyData}, Dq H x d → noL d = true → Dq (upd H D o) x d
  | _, _, .non, _ => .non
  | _, _, .bl b, _ => .bl b
  | _, _, .int i, _ => .int i
  | _, _, .str x, _ => .str x
  | _, _, .lst q h, n => by cases n
  | _, _, .tup (a := a) q h, n => .tup (by rw [upd_ne (ne_of q hD (fun z => nomatch z))]; exact q) (DqAll.mutD hD h n)
  | _, _, .dk q h, n => by cases n
theorem DqAll.mutD (hD : H D = some (.lst l)) : ∀ {xs : List V} {ds : List PyData}, DqAll H xs ds → noLs ds = true → DqAll (upd H D o) xs ds
  | _, _, .nil, _ => .nil
  | _, _, .cons h t, n => by
    simp only [noLs, Bool.and_eq_true] at n
    exact .cons (Dq.mutD hD h n.1) (DqAll.mutD hD t n.2)
end
end
theorem rm_upd {p D : Addr} {H : Hp} {o : HO} (h : D ≠ p) : rm p (upd H D o) = upd (rm p H) D o := by
  funext a
  by_cases ha : a = p
  · subst ha
    rw [upd_ne (Ne.symm h)]
    simp [rm]
  · rw [rm_ne ha]
    by_cases hb : a = D
    · subst hb; rw [upd_same, upd_same]
    · rw [upd_ne hb, upd_ne hb, rm_ne ha]
theorem rm_same {p : Addr} {H : Hp} {o : HO} : rm p (upd H p o) = rm p H := by
  funext a
  by_cases ha : a = p
  · subst ha; simp [rm]
  · rw [rm_ne ha, rm_ne ha, upd_ne ha]
theorem DzAll.mutD {p D : Addr} {H : Hp} {o : HO} {l : List V} {xs : List V} {ds : List PyData} (hD : H D = some (.lst l)) (np : D ≠ p) (h : DzAll p H xs ds) (n : noLs ds = true) : DzAll p (upd H D o) xs ds := by
  show DqAll (rm p (upd H D o)) xs ds
  rw [rm_upd np]
  exact DqAll.mutD (l := l) (by rw [rm_ne np]; exact hD) h n
theorem Dz.mutD {p D : Addr} {H : Hp} {o : HO} {l : List V} {x : V} {d : PyData} (hD : H D = some (.lst l)) (np : D ≠ p) (h : Dz p H x d) (n : noL d = true) : Dz p (upd H D o) x d := by
  show Dq (rm p (upd H D o)) x d
  rw [rm_upd np]
  exact Dq.mutD (l := l) (by rw [rm_ne np]; exact hD) h n
section
variable {J : It} {n : Nat} {G : Hp → Prop} {Y : Nat → Hp → V → Hp → Prop}
/-- a comprehension whose elements are drawn -/
theorem lc_lx (w : Walk J n G Y) {p : Addr} {g : TG} {te : TE} {vs : List Nat} {σ : L2.St} {H1 : Hp} {D : Addr} {Qd : Hp → Prop} (s : Sc p H1) (hD : H1 D = none) (hG : ∀ H', Lx p H1 H' → G H') (R : Nat → PyData → Prop) (hz : n ≤ 100000)
    (hY : ∀ j H2 x H3, Y j H2 x H3 → H3 = H2)
    (hs : ∀ j x H2, j < n → Lx p H1 H2 → Y j H2 x H2 → ∀ Qt : V → Hp → Prop, (∀ y d H4, Lx p H2 H4 → Dz p H4 y d → noL d = true → R j d → Qt y H4) → g x (wipe σ vs) H2 fun σ2 H4 => wipe σ2 vs = wipe σ vs ∧ te σ2 H4 Qt)
    (hd : ∀ H' xs ds, Lx p H1 H' → H' D = some (.lst xs) → DzAll p H' xs ds → ds.length = n → noLs ds = true → (∀ i d, ds[i]? = some d → R i d) → Qd H') :
    ∃ W : Nat → Nat → Hp → Prop, (∃ m, W 0 m (upd H1 D (.lst []))) ∧ ∀ i m H, W i m H →
      (J.stop i H ∧ Qd H) ∨ (J.go i H ∧ ∃ Nx : Hp → Prop, (∀ H', Nx H' → ∃ m', m' < m ∧ W (i + 1) m' H') ∧ ∀ x H', J.yld i H x H' → g x (wipe σ vs) H' fun σ2 H2 => wipe σ2 vs = wipe σ vs ∧ tYes σ2 H2 fun b H3 =>
        if b = true then te σ2 H3 fun y H4 => ∃ acc, H4 D = some (.lst acc) ∧ acc.length < sizeLine ∧ Nx (upd H4 D (.lst (acc ++ [y]))) else Nx H3) := by
  have np : D ≠ p := s.ne hD
  refine lc_it w (fun j H' => Lx p H1 H' ∧ ∃ xs ds, H' D = some (.lst xs) ∧ DzAll p H' xs ds ∧ ds.length = j ∧ noLs ds = true ∧ ∀ i d, ds[i]? = some d → R i d)
    ⟨.of s (Evl.Ex.new hD), [], [], upd_same, .nil, rfl, rfl, fun i d h => by simp at h⟩ (fun i H hi q => hG H q.1) ?_ (fun H ⟨l, xs, ds, a, b, c, d, e⟩ => hd H xs ds l a b c d e)
  rintro j x H2 H3 hj ⟨l, xs, ds, hd2, hall, hlen, hno, hR⟩ hy
  obtain rfl := hY j H2 x H3 hy
  have q := hs j x H3 hj l hy (fun y H4 => ∃ acc, H4 D = some (.lst acc) ∧ acc.length < sizeLine ∧ (Lx p H1 (upd H4 D (.lst (acc ++ [y]))) ∧ ∃ xs ds, (upd H4 D (.lst (acc ++ [y]))) D = some (.lst xs) ∧ DzAll p (upd H4 D (.lst (acc ++ [y]))) xs ds ∧ ds.length = j + 1 ∧ noLs ds = true ∧ ∀ i d, ds[i]? = some d → R i d)) ?_
  · simp only [tYes, if_true]
    exact q
  · intro y d H4 l4 hy4 hnd hRd
    have hD4 := l4.at hd2 np
    refine ⟨xs, hD4, ?_, (l.trans l4).mut np hD, xs ++ [y], ds ++ [d], upd_same, ?_, ?_, ?_, ?_⟩
    · rw [DqAll.length hall]
      exact Evl.sz_lt (by omega)
    · exact DqAll.app ((hall.lx l4).mutD hD4 np hno) (.cons (hy4.mutD hD4 np hnd) .nil)
    · rw [List.length_append, hlen]; rfl
    · exact noLs_app hno (by simp only [noLs, Bool.and_true]; exact hnd)
    · intro i e he
      rw [List.getElem?_append] at he
      split at he
      · exact hR i e he
      · rename_i hi
        have hi2 : i = ds.length := by
          rcases Nat.lt_or_ge i (ds.length + 1) with h | h
          · omega
          · rw [List.getElem?_eq_none (by simp; omega)] at he; cases he
        subst hi2
        rw [Nat.sub_self] at he
        cases he
        rw [hlen]
        exact hRd
end
/-! ### a list or a tuple walked -/
def iSeq (K : PySem.W.Frag) (tl : TE) : TI := fun σ H R => tl σ H fun x H1 => ∃ a, x = .ref a ∧ (((∃ xs, SqL K H1 a xs) ∧ R (Itl K a) H1) ∨ ((∃ xs, SqT K H1 a xs) ∧ R (Itt K a) H1))
theorem pi_seqq {X : Cx} {tg l : Expr} {tl : TE} (hl : PE X l tl) : PI X tg l (iSeq X.K tl) := by
  refine ⟨fun pins s σ H R I h => ?_⟩
  refine thn (hl.run pins s σ H _ I h) fun v s1 ⟨x, H1, I1, r1, q1⟩ => ?_
  obtain ⟨a, e, q1⟩ := q1
  subst e
  rcases q1 with ⟨⟨xs, hq⟩, q⟩ | ⟨⟨xs, hq⟩, q⟩
  · cases r1
    obtain ⟨its, rv, p, hz⟩ := I1.list hq
    refine wpAny_pyIter_list p.isList ?_
    refine ⟨s1.heap.objs.size, [s1.heap.objs.size], _, _, H1, rfl, I1.kept (t' := s1.toks) fun b o e => Heap.get?_push_of_some _ e, turn_list a _, ⟨_, Heap.get?_push_size _ rfl, rfl, rfl⟩, fun b hb => ?_, q⟩
    have e : b = s1.heap.objs.size := by simpa using hb
    subst e
    exact I1.fpOk (Nat.le_refl _) (I1.hok.fresh (Nat.le_refl _))
  · cases r1
    obtain ⟨its, rv, p, hz⟩ := I1.tuple hq
    refine wpAny_pyIter_tuple (show s1.heap.IsTuple a its.toArray from p) ?_
    refine ⟨s1.heap.objs.size, [s1.heap.objs.size], _, _, H1, rfl, I1.kept (t' := s1.toks) fun b o e => Heap.get?_push_of_some _ e, turn_tuple a _, ⟨_, Heap.get?_push_size _ rfl, rfl, rfl⟩, fun b hb => ?_, q⟩
    have e : b = s1.heap.objs.size := by simpa using hb
    subst e
    exact I1.fpOk (Nat.le_refl _) (I1.hok.fresh (Nat.le_refl _))
end EX2
set_option Elab.async false
set_option linter.all false
set_option maxRecDepth 100000
set_option maxHeartbeats 0
namespace K07
open PySem PySem.Spec PyProof.Rows L2 EX2
/-! ### what is drawn -/
theorem inR_int (lo hi i : Int) : inR lo hi (.int i) = (decide (lo ≤ i) && decide (i ≤ hi)) := rfl
def spDr : Sp := fun vs H Q _ => ∃ (p : Addr) (m : Int), vs = [.ref p, .int m] ∧ Sc p H ∧ 0 < m ∧ m < 1073741824 ∧ ∀ d H', 0 ≤ d → d < m → Lx p H H' → Q (.int d) H'
def spPick : Sp := fun vs H Q _ => ∃ (p l : Addr) (xs : List V), vs = [.ref p, .ref l] ∧ Sc p H ∧ l ≠ p ∧ H l = some (.lst xs) ∧ xs ≠ [] ∧ xs.length ≤ 1000 ∧ ∀ x H', x ∈ xs → Lx p H H' → Q x H'
def tyS : List Str := ["a", "a[]", "b", "b[]", "c", "c[]", "top", "top[]"]
def spTy : Sp := fun vs H Q _ => ∃ (p : Addr), vs = [.ref p] ∧ Sc p H ∧ ∀ z H', z ∈ tyS → Lx p H H' → Q (.str z) H'
theorem tyS_ok : ∀ z ∈ tyS, isNm (nmOf z) = true ∧ z.length ≤ 5 ∧ PyData.strOk z = true := by decide +kernel
section
variable {P : Program} {w : World} {K : PySem.W.Frag} {mg : Str → Option Value} {base : Heap} {f : Addr} {fd : FuncData}
theorem okL_draw (F : FnP K "_law_draw" sDraw f fd) (D : Defs w K mg) : FnOk P w K mg base CX0 1 f fd ["_law_source_here", "_law_amount"] spDr := by
  refine (ok_draw F D.t).imp ?_
  rintro vs H Q E ⟨p, m, rfl, ⟨N, S, hp, h1, h2, h3⟩, m0, m1, q⟩
  exact ⟨p, N, S, m, rfl, hp, h1, h2, h3, m0, m1, fun d N' S' a b c e f => q d _ a b ⟨by rw [rm_same]; exact .refl _, N', S', upd_same, c, e, f⟩⟩
abbrev npick : List Str := ["_law_source_here", "_law_items"]
theorem scpick : FnScope npick ["_law_source_here", "_law_items"] (defScope spick) := ⟨rfl, rfl, rfl, by decide +kernel, rfl, by decide +kernel, by decide +kernel⟩
theorem ok_pick (F : FnP K "_law_pick" spick f fd) (D : Defs w K mg) : FnOk P w K mg base CX0 2 f fd ["_law_source_here", "_law_items"] spPick := by
  have T := D.t
  obtain ⟨fD, fdD, gD, FD⟩ := D.draw
  have GD : FnOk P w K mg base CX0 1 fD fdD ["_law_source_here", "_law_amount"] spDr := okL_draw FD D
  have bD : Binds K fdD ["_law_source_here", "_law_amount"] [] := FD.bindsN fun _ _ _ _ _ _ us hl => match us, hl with | [_, _], _ => rfl
  refine F.ok scpick (fun vs H Q E h => ?_) (fun cdv A outer s H vs Q E hr h => ?_)
  · obtain ⟨p, l, xs, rfl, _⟩ := h
    rfl
  · obtain ⟨p, l, xs, rfl, hs, hlp, hl, hne, hlen, hQ⟩ := h
    refine ⟨_, PSs.nox (pss_one (ps_ret (pe_ix ix_list (pv 1) (pe_call GD hr rfl gD FD.kp bD .nil pass0 (pa_cons (pv 0) (pa_cons (pe_callB call_len rfl T.len boot_len (pa_cons (pv 1) pa_nil)) pa_nil))) (fun _ _ => rfl)))), ?_⟩
    have h0 : 0 < xs.length := List.length_pos_iff.mpr hne
    refine ⟨_, rfl, _, rfl, _, rfl, _, _, rfl, .inl ⟨_, SqL.of hl, rfl⟩, p, _, rfl, hs, by omega, by omega, fun d H' d0 d1 lx => ?_⟩
    obtain ⟨k, rfl⟩ := Int.eq_ofNat_of_zero_le d0
    have hk : k < xs.length := by omega
    exact ⟨l, xs, _, xs[k], rfl, rfl, SqL.of (lx.at hl hlp), atI_nat (List.getElem?_eq_getElem hk), hQ _ _ (List.getElem_mem hk) lx⟩
abbrev ntypeL : List Str := ["_law_source_here"]
theorem sctypeL : FnScope ntypeL ["_law_source_here"] (defScope stypeL) := ⟨rfl, rfl, rfl, by decide +kernel, rfl, by decide +kernel, by decide +kernel⟩
theorem ty_cat : ∀ x ∈ ([.str "a", .str "b", .str "c", .str "top"] : List V), ∀ y ∈ ([.str "", .str "", .str "", .str "[]"] : List V), ∃ a b, x = .str a ∧ y = .str b ∧ a ++ b ∈ tyS ∧ a.length + b.length ≤ 10 := by
  intro x hx y hy
  simp only [List.mem_cons, List.not_mem_nil, or_false] at hx hy
  rcases hx with rfl | rfl | rfl | rfl <;> rcases hy with rfl | rfl | rfl | rfl <;> exact ⟨_, _, rfl, rfl, by decide +kernel, by decide +kernel⟩
theorem ok_typeL (F : FnP K "_law_type" stypeL f fd) (D : Defs w K mg) : FnOk P w K mg base CX0 3 f fd ["_law_source_here"] spTy := by
  have T := D.t
  obtain ⟨fP, fdP, gP, FP⟩ := D.pick
  have GP : FnOk P w K mg base CX0 2 fP fdP ["_law_source_here", "_law_items"] spPick := ok_pick FP D
  have bP : Binds K fdP ["_law_source_here", "_law_items"] [] := FP.bindsN fun _ _ _ _ _ _ us hl => match us, hl with | [_, _], _ => rfl
  refine F.ok sctypeL (fun vs H Q E h => ?_) (fun cdv A outer s H vs Q E hr h => ?_)
  · obtain ⟨p, rfl, _⟩ := h
    rfl
  · obtain ⟨p, rfl, hs, hQ⟩ := h
    refine ⟨_, PSs.nox (pss_one (ps_ret (pe_op op_add_str (pe_call GP hr rfl gP FP.kp bP .nil pass0 (pa_cons (pv 0) (pa_cons (pe_lst (pa_cons pe_str (pa_cons pe_str (pa_cons pe_str (pa_cons pe_str pa_nil))))) pa_nil))) (pe_call GP hr rfl gP FP.kp bP .nil pass0 (pa_cons (pv 0) (pa_cons (pe_lst (pa_cons pe_str (pa_cons pe_str (pa_cons pe_str (pa_cons pe_str pa_nil))))) pa_nil)))))), ?_⟩
    refine ⟨_, rfl, le_line (by simp), fun l1 h1 => ⟨p, l1, _, rfl, hs.ex (Evl.Ex.new h1), hs.ne h1, upd_same, by simp, by simp, fun x H2 hx lx => ?_⟩⟩
    refine ⟨_, rfl, le_line (by simp), fun l2 h2 => ⟨p, l2, _, rfl, lx.sc.ex (Evl.Ex.new h2), lx.sc.ne h2, upd_same, by simp, by simp, fun y H3 hy lx2 => ?_⟩⟩
    obtain ⟨a, b, rfl, rfl, hm, hl⟩ := ty_cat x hx y hy
    exact ⟨a, b, rfl, rfl, le_line (by omega), hQ _ _ hm (((Lx.of hs (Evl.Ex.new h1)).trans lx).trans ((Lx.of lx.sc (Evl.Ex.new h2)).trans lx2))⟩
end
end K07
set_option Elab.async false
set_option linter.all false
set_option maxRecDepth 100000
set_option maxHeartbeats 0
namespace K07
open PySem PySem.Spec PyProof.Rows L2 EX2
structure CallP (m : Int) (fn : Str) (ks : List PyData) (t : Str) (as : List PyData) : Prop where
  fn : fn = "f" ∨ fn = "g"
  kl : ks.length ≤ 2
  al : as.length = ks.length
  ks : ∀ k ∈ ks, ∃ z ∈ tyS, k = .str z
  t : t ∈ tyS
  as : ∀ a ∈ as, ∃ i, a = .int i ∧ 0 ≤ i ∧ i < m
def spCall : Sp := fun vs H Q _ => ∃ (p : Addr) (m : Int), vs = [.ref p, .int m] ∧ Sc p H ∧ 0 < m ∧ m ≤ 10 ∧
  ∀ x fn ks t as H', Lx p H H' → Dz p H' x (.tuple [.str fn, .tuple ks, .str t, .tuple as]) → CallP m fn ks t as → Q x H'
theorem mem_of_get {R : PyData → Prop} {ds : List PyData} (h : ∀ (i : Nat) d, ds[i]? = some d → R d) : ∀ d ∈ ds, R d := fun d hd => by
  obtain ⟨i, hi⟩ := List.mem_iff_getElem?.mp hd
  exact h i d hi
section
variable {P : Program} {w : World} {K : PySem.W.Frag} {mg : Str → Option Value} {base : Heap} {f : Addr} {fd : FuncData}
abbrev ncall : List Str := ["_law_source_here", "_law_size", "_law_many", "_law_kinds", "_law_args", "_law_part"]
theorem sccall : FnScope ncall ["_law_source_here", "_law_size"] (defScope scall) := ⟨rfl, rfl, rfl, by decide +kernel, rfl, by decide +kernel, by decide +kernel⟩
theorem ok_call (F : FnP K "_law_call" scall f fd) (D : Defs w K mg) : FnOk P w K mg base CX0 4 f fd ["_law_source_here", "_law_size"] spCall := by
  have T := D.t
  obtain ⟨fD, fdD, gD, FD⟩ := D.draw
  have GD : FnOk P w K mg base CX0 1 fD fdD ["_law_source_here", "_law_amount"] spDr := okL_draw FD D
  have bD : Binds K fdD ["_law_source_here", "_law_amount"] [] := FD.bindsN fun _ _ _ _ _ _ us hl => match us, hl with | [_, _], _ => rfl
  obtain ⟨fP, fdP, gP, FP⟩ := D.pick
  have GP : FnOk P w K mg base CX0 2 fP fdP ["_law_source_here", "_law_items"] spPick := ok_pick FP D
  have bP : Binds K fdP ["_law_source_here", "_law_items"] [] := FP.bindsN fun _ _ _ _ _ _ us hl => match us, hl with | [_, _], _ => rfl
  obtain ⟨fT, fdT, gT, FT⟩ := D.typeL
  have GT : FnOk P w K mg base CX0 3 fT fdT ["_law_source_here"] spTy := ok_typeL FT D
  have bT : Binds K fdT ["_law_source_here"] [] := FT.bindsN fun _ _ _ _ _ _ us hl => match us, hl with | [_], _ => rfl
  refine F.ok sccall (fun vs H Q E h => ?_) (fun cdv A outer s H vs Q E hr h => ?_)
  · obtain ⟨p, m, rfl, _⟩ := h
    rfl
  · obtain ⟨p, m, rfl, hs, hm0, hm1, hQ⟩ := h
    refine ⟨_, PSs.nox (pss_cons (ps_set (i := 2) sccall.nd rfl (Or.inl rfl) (pe_call GD (hr.mono (by decide)) rfl gD FD.kp bD .nil pass0 (pa_cons (pv 0) (pa_cons pe_int pa_nil))))
      (pss_cons (ps_set (i := 3) sccall.nd rfl (Or.inl rfl) (pe_callTy call_tuple_of rfl T.tup boot_tuple (pa_cons (pe_lc (own := [("_law_part", 5)]) (g := gName 5) (tt := tYes) rfl sccall.nd (pi_range1 rfl T.rng (pa_cons (pv 2) pa_nil)) (blkOk_by (N := ncall) (sc := defScope scall) (by decide +kernel)) (fun _ _ _ _ _ => (pg_name (i := 5) sccall.nd rfl (Or.inl rfl))) (fun _ _ _ _ _ => pts_nil) (fun _ _ _ _ _ => (pe_call GT (hr.mono (by decide)) rfl gT FT.kp bT .nil pass0 (pa_cons (pv 0) pa_nil)))) pa_nil)))
      (pss_cons (ps_set (i := 4) sccall.nd rfl (Or.inl rfl) (pe_callTy call_tuple_of rfl T.tup boot_tuple (pa_cons (pe_lc (own := [("_law_part", 5)]) (g := gName 5) (tt := tYes) rfl sccall.nd (pi_range1 rfl T.rng (pa_cons (pv 2) pa_nil)) (blkOk_by (N := ncall) (sc := defScope scall) (by decide +kernel)) (fun _ _ _ _ _ => (pg_name (i := 5) sccall.nd rfl (Or.inl rfl))) (fun _ _ _ _ _ => pts_nil) (fun _ _ _ _ _ => (pe_call GD (hr.mono (by decide)) rfl gD FD.kp bD .nil pass0 (pa_cons (pv 0) (pa_cons (pv 1) pa_nil))))) pa_nil)))
      (pss_one (ps_ret (pe_tup (pa_cons (pe_call GP (hr.mono (by decide)) rfl gP FP.kp bP .nil pass0 (pa_cons (pv 0) (pa_cons (pe_lst (pa_cons pe_str (pa_cons pe_str pa_nil))) pa_nil))) (pa_cons (pv 3) (pa_cons (pe_call GT (hr.mono (by decide)) rfl gT FT.kp bT .nil pass0 (pa_cons (pv 0) pa_nil)) (pa_cons (pv 4) pa_nil)))))))))), ?_⟩
    refine ⟨_, rfl, p, _, rfl, hs, by decide, by decide, fun k H1 k0 k1 lx1 => ?_⟩
    have hk3 : k.toNat ≤ 2 := by omega
    refine ⟨_, rfl, _, rfl, by omega, by omega, fun L1 hL1 => ?_⟩
    refine lc_lx walk_range lx1.sc hL1 (fun _ _ => trivial) (fun _ d => ∃ z ∈ tyS, d = .str z) (by omega) (fun j H2 x H3 y => y.1) ?_ ?_
    · rintro j x H2 hj lx2 _ Qt hQt
      exact ⟨rfl, _, rfl, p, rfl, lx2.sc, fun z H3 hz lx3 => hQt _ (.str z) H3 lx3 (.str z) rfl ⟨z, hz, rfl⟩⟩
    intro H2 xs1 ks lx2 hL1s hks hkl hkn hkR
    refine ⟨L1, xs1, rfl, .inl ⟨SqL.of hL1s, fun a1 ha1 => ?_⟩⟩
    have lx3 := (lx1.trans lx2).then (Evl.Ex.new (o := .tup xs1) ha1)
    have d1 : Dz p (upd H2 a1 (.tup xs1)) (.ref a1) (.tuple ks) := Dz.tupN lx2.sc ha1 hks
    generalize (upd H2 a1 (.tup xs1)) = H3 at lx3 d1
    refine ⟨_, rfl, _, rfl, by omega, by omega, fun L2 hL2 => ?_⟩
    refine lc_lx walk_range lx3.sc hL2 (fun _ _ => trivial) (fun _ d => ∃ i, d = .int i ∧ 0 ≤ i ∧ i < m) (by omega) (fun j H2 x H3 y => y.1) ?_ ?_
    · rintro j x H4 hj lx4 _ Qt hQt
      exact ⟨rfl, _, rfl, _, rfl, p, m, rfl, lx4.sc, hm0, by omega, fun i H5 i0 i1 lx5 => hQt _ (.int i) H5 lx5 (.int i) rfl ⟨i, rfl, i0, i1⟩⟩
    intro H4 xs2 as lx4 hL2s has hal han haR
    refine ⟨L2, xs2, rfl, .inl ⟨SqL.of hL2s, fun a2 ha2 => ?_⟩⟩
    have e5 := Evl.Ex.new (o := .tup xs2) ha2
    have lx5 := (lx3.trans lx4).then e5
    have d2 : Dz p (upd H4 a2 (.tup xs2)) (.ref a2) (.tuple as) := Dz.tupN lx4.sc ha2 has
    have d1' := (d1.lx lx4).lx (.of lx4.sc e5)
    generalize (upd H4 a2 (.tup xs2)) = H5 at lx5 d2 d1'
    refine ⟨_, rfl, le_line (by simp), fun l1 h1 => ⟨p, l1, _, rfl, lx5.sc.ex (Evl.Ex.new h1), lx5.sc.ne h1, upd_same, by simp, by simp, fun x H6 hx lx6 => ?_⟩⟩
    have lx67 := (Lx.of lx5.sc (Evl.Ex.new h1)).trans lx6
    refine ⟨_, rfl, _, rfl, p, rfl, lx6.sc, fun t H7 ht lx7 => ⟨_, rfl, le_line (by simp), fun a9 ha9 => ?_⟩⟩
    have lx57 := lx67.trans lx7
    obtain ⟨fn, rfl, hfn⟩ : ∃ fn, x = .str fn ∧ (fn = "f" ∨ fn = "g") := by
      simp only [List.mem_cons, List.not_mem_nil, or_false] at hx
      rcases hx with rfl | rfl
      · exact ⟨_, rfl, .inl rfl⟩
      · exact ⟨_, rfl, .inr rfl⟩
    refine hQ _ fn ks t as _ ((lx5.trans lx57).then (Evl.Ex.new ha9)) (Dz.tupN lx7.sc ha9 (.cons (.str _) (.cons (d1'.lx lx57) (.cons (.str _) (.cons (d2.lx lx57) .nil))))) ⟨hfn, by omega, by omega, mem_of_get (fun i d h => hkR i d h), ht, mem_of_get (fun i d h => haR i d h)⟩
end
end K07
set_option Elab.async false
set_option linter.all false
set_option maxRecDepth 100000
set_option maxHeartbeats 0
namespace K07
open PySem PySem.Spec PyProof.Rows L2 EX2
def nm4 : List Str := ["a", "b", "c", "top"]
theorem nm4_ok : ∀ z ∈ nm4, isNm z = true ∧ z.length ≤ 5 ∧ PyData.strOk z = true := by decide +kernel
/-- drawers and targets -/
def itemsD : PyData → List PyData
  | .tuple ds => ds
  | _ => []
def drawT (fm : Str) (ds : List PyData) : List PyData := (List.range fm.length).flatMap fun i => if fm.cps.toList.getD i 0 = 114 then [ds.getD i .none] else if fm.cps.toList.getD i 0 = 120 then itemsD (ds.getD i .none) else []
def tgtT (fm : Str) (ds : List PyData) : List PyData := (List.range fm.length).flatMap fun i => if fm.cps.toList.getD i 0 = 106 then [ds.getD i .none] else []
def drawD : PyData → List PyData
  | .tuple (.str z :: ds) => match K07.forms.lookup z with
    | some fm => drawT fm ds
    | none => []
  | _ => []
def tgtD : PyData → List PyData
  | .tuple (.str z :: ds) => match K07.forms.lookup z with
    | some fm => tgtT fm ds
    | none => []
  | _ => []
def ltD (m : Int) : PyData → Bool
  | .int i => decide (i < m)
  | _ => false
/-- the instructions that are made -/
inductive InsP (m n : Int) : PyData → Prop
  | new (r : Int) (c : Str) (r0 : 0 ≤ r) (r1 : r < m) (hc : c ∈ nm4) : InsP m n (.tuple [.str "new", .int r, .str c])
  | array (r : Int) (c : Str) (k : Int) (r0 : 0 ≤ r) (r1 : r < m) (hc : c ∈ nm4) (k0 : 0 ≤ k) (k1 : k ≤ 9) : InsP m n (.tuple [.str "array", .int r, .str c, .int k])
  | null (r : Int) (r0 : 0 ≤ r) (r1 : r < m) : InsP m n (.tuple [.str "null", .int r])
  | move (r s : Int) (r0 : 0 ≤ r) (r1 : r < m) (s0 : 0 ≤ s) (s1 : s < m) : InsP m n (.tuple [.str "move", .int r, .int s])
  | get (r s : Int) (c t : Str) (r0 : 0 ≤ r) (r1 : r < m) (s0 : 0 ≤ s) (s1 : s < m) (hc : c ∈ nm4) (ht : t ∈ tyS) : InsP m n (.tuple [.str "get", .int r, .int s, .str c, .str "f", .str t])
  | put (r s : Int) (c t : Str) (r0 : 0 ≤ r) (r1 : r < m) (s0 : 0 ≤ s) (s1 : s < m) (hc : c ∈ nm4) (ht : t ∈ tyS) : InsP m n (.tuple [.str "put", .int r, .str c, .str "f", .str t, .int s])
  | call (r s : Int) (c : Str) (fn : Str) (ks : List PyData) (t : Str) (as : List PyData) (r0 : 0 ≤ r) (r1 : r < m) (s0 : 0 ≤ s) (s1 : s < m) (hc : c ∈ nm4) (hp : CallP m fn ks t as) : InsP m n (.tuple [.str "call", .int r, .int s, .str c, .str fn, .tuple ks, .str t, .tuple as])
  | ask (r s : Int) (c : Str) (fn : Str) (ks : List PyData) (t : Str) (as : List PyData) (r0 : 0 ≤ r) (r1 : r < m) (s0 : 0 ≤ s) (s1 : s < m) (hc : c ∈ nm4) (hp : CallP m fn ks t as) : InsP m n (.tuple [.str "ask", .int r, .int s, .str c, .str fn, .tuple ks, .str t, .tuple as])
  | cast (r s : Int) (c : Str) (r0 : 0 ≤ r) (r1 : r < m) (s0 : 0 ≤ s) (s1 : s < m) (hc : c ∈ nm4) : InsP m n (.tuple [.str "cast", .int r, .int s, .str c])
  | load (r s : Int) (r0 : 0 ≤ r) (r1 : r < m) (s0 : 0 ≤ s) (s1 : s < m) : InsP m n (.tuple [.str "load", .int r, .int s, .int 1])
  | store (r s : Int) (r0 : 0 ≤ r) (r1 : r < m) (s0 : 0 ≤ s) (s1 : s < m) : InsP m n (.tuple [.str "store", .int r, .int 0, .int s])
  | jump (t : Int) (t0 : 0 ≤ t) (t1 : t < n) : InsP m n (.tuple [.str "jump", .int t])
  | ifnull (r t : Int) (r0 : 0 ≤ r) (r1 : r < m) (t0 : 0 ≤ t) (t1 : t < n) : InsP m n (.tuple [.str "ifnull", .int r, .int t])
  | ifis (r : Int) (c : Str) (t : Int) (r0 : 0 ≤ r) (r1 : r < m) (hc : c ∈ nm4) (t0 : 0 ≤ t) (t1 : t < n) : InsP m n (.tuple [.str "ifis", .int r, .str c, .int t])
  | choose (t : Int) (t0 : 0 ≤ t) (t1 : t < n) : InsP m n (.tuple [.str "choose", .int t])
  | tell (r : Int) (r0 : 0 ≤ r) (r1 : r < m) : InsP m n (.tuple [.str "tell", .int r])
  | ret (r : Int) (r0 : 0 ≤ r) (r1 : r < m) : InsP m n (.tuple [.str "return", .int r])
section
variable {m n : Int} {d : PyData}
theorem fR {r : Int} (h0 : 0 ≤ r) (h1 : r < m) (hm : m ≤ 10) : fitsC 114 (.int r) = true ∧ fitsC 110 (.int r) = true := by
  have : inR 0 9 (.int r) = true := by rw [inR_int]; simp; omega
  exact ⟨this, this⟩
theorem fC {c : Str} (h : c ∈ nm4) : fitsC 99 (.str c) = true := (nm4_ok c h).1
theorem fT {t : Str} (h : t ∈ tyS) : fitsC 116 (.str t) = true := (tyS_ok t h).1
theorem fJ {t : Int} (h0 : 0 ≤ t) (h1 : t < n) (hn : n ≤ 40) : fitsC 106 (.int t) = true := by
  have : inR 0 39 (.int t) = true := by rw [inR_int]; simp; omega
  exact this
theorem fF {fn : Str} (h : fn = "f" ∨ fn = "g") : fitsC 102 (.str fn) = true := by rcases h with rfl | rfl <;> decide +kernel
theorem fY {ks : List PyData} (hl : ks.length ≤ 2) (h : ∀ k ∈ ks, ∃ z ∈ tyS, k = .str z) : fitsC 121 (.tuple ks) = true := by
  show (decide (ks.length ≤ 4) && ks.all (elC 121)) = true
  rw [decide_eq_true (by omega), Bool.true_and, List.all_eq_true]
  intro k hk
  obtain ⟨z, hz, rfl⟩ := h k hk
  exact (tyS_ok z hz).1
theorem fX {as : List PyData} (hm : m ≤ 10) (hl : as.length ≤ 2) (h : ∀ a ∈ as, ∃ i, a = .int i ∧ 0 ≤ i ∧ i < m) : fitsC 120 (.tuple as) = true := by
  show (decide (as.length ≤ 4) && as.all (elC 120)) = true
  rw [decide_eq_true (by omega), Bool.true_and, List.all_eq_true]
  intro k hk
  obtain ⟨z, rfl, h0, h1⟩ := h k hk
  exact (fR h0 h1 hm).1
theorem InsP.ins (hm : m ≤ 10) (hn : n ≤ 40) (h : InsP m n d) : insD d = true := by
  cases h with
  | new r c r0 r1 hc => show ((true && (fitsC 114 (.int r) && (fitsC 99 (.str c) && true))) && true) = true; rw [(fR r0 r1 hm).1, fC hc]; rfl
  | array r c k r0 r1 hc k0 k1 => show ((true && (fitsC 114 (.int r) && (fitsC 99 (.str c) && (fitsC 110 (.int k) && true)))) && true) = true; rw [(fR r0 r1 hm).1, fC hc, (fR k0 (by omega : k < 10) (by decide)).2]; rfl
  | null r r0 r1 => show ((true && (fitsC 114 (.int r) && true)) && true) = true; rw [(fR r0 r1 hm).1]; rfl
  | move r s r0 r1 s0 s1 => show ((true && (fitsC 114 (.int r) && (fitsC 114 (.int s) && true))) && true) = true; rw [(fR r0 r1 hm).1, (fR s0 s1 hm).1]; rfl
  | get r s c t r0 r1 s0 s1 hc ht => show ((true && (fitsC 114 (.int r) && (fitsC 114 (.int s) && (fitsC 99 (.str c) && (fitsC 102 (.str "f") && (fitsC 116 (.str t) && true)))))) && true) = true; rw [(fR r0 r1 hm).1, (fR s0 s1 hm).1, fC hc, fF (fn := "f") (.inl rfl), fT ht]; rfl
  | put r s c t r0 r1 s0 s1 hc ht => show ((true && (fitsC 114 (.int r) && (fitsC 99 (.str c) && (fitsC 102 (.str "f") && (fitsC 116 (.str t) && (fitsC 114 (.int s) && true)))))) && true) = true; rw [(fR r0 r1 hm).1, fC hc, fF (fn := "f") (.inl rfl), fT ht, (fR s0 s1 hm).1]; rfl
  | cast r s c r0 r1 s0 s1 hc => show ((true && (fitsC 114 (.int r) && (fitsC 114 (.int s) && (fitsC 99 (.str c) && true)))) && true) = true; rw [(fR r0 r1 hm).1, (fR s0 s1 hm).1, fC hc]; rfl
  | load r s r0 r1 s0 s1 => show ((true && (fitsC 114 (.int r) && (fitsC 114 (.int s) && (fitsC 110 (.int 1) && true)))) && true) = true; rw [(fR r0 r1 hm).1, (fR s0 s1 hm).1, (fR (m := 10) (r := 1) (by decide) (by decide) (by decide)).2]; rfl
  | store r s r0 r1 s0 s1 => show ((true && (fitsC 114 (.int r) && (fitsC 110 (.int 0) && (fitsC 114 (.int s) && true)))) && true) = true; rw [(fR r0 r1 hm).1, (fR (m := 10) (r := 0) (by decide) (by decide) (by decide)).2, (fR s0 s1 hm).1]; rfl
  | jump t t0 t1 => show ((true && (fitsC 106 (.int t) && true)) && true) = true; rw [fJ t0 t1 hn]; rfl
  | ifnull r t r0 r1 t0 t1 => show ((true && (fitsC 114 (.int r) && (fitsC 106 (.int t) && true))) && true) = true; rw [(fR r0 r1 hm).1, fJ t0 t1 hn]; rfl
  | ifis r c t r0 r1 hc t0 t1 => show ((true && (fitsC 114 (.int r) && (fitsC 99 (.str c) && (fitsC 106 (.int t) && true)))) && true) = true; rw [(fR r0 r1 hm).1, fC hc, fJ t0 t1 hn]; rfl
  | choose t t0 t1 => show ((true && (fitsC 106 (.int t) && true)) && true) = true; rw [fJ t0 t1 hn]; rfl
  | tell r r0 r1 => show ((true && (fitsC 114 (.int r) && true)) && true) = true; rw [(fR r0 r1 hm).1]; rfl
  | ret r r0 r1 => show ((true && (fitsC 114 (.int r) && true)) && true) = true; rw [(fR r0 r1 hm).1]; rfl
  | call r s c fn ks t as r0 r1 s0 s1 hc hp => show ((true && (fitsC 114 (.int r) && (fitsC 114 (.int s) && (fitsC 99 (.str c) && (fitsC 102 (.str fn) && (fitsC 121 (.tuple ks) && (fitsC 116 (.str t) && (fitsC 120 (.tuple as) && true)))))))) && (!true || decide (ks.length = as.length))) = true; rw [(fR r0 r1 hm).1, (fR s0 s1 hm).1, fC hc, fF hp.fn, fY hp.kl hp.ks, fT hp.t, fX hm (by have := hp.al; have := hp.kl; omega) hp.as, decide_eq_true hp.al.symm]; rfl
  | ask r s c fn ks t as r0 r1 s0 s1 hc hp => show ((true && (fitsC 114 (.int r) && (fitsC 114 (.int s) && (fitsC 99 (.str c) && (fitsC 102 (.str fn) && (fitsC 121 (.tuple ks) && (fitsC 116 (.str t) && (fitsC 120 (.tuple as) && true)))))))) && (!true || decide (ks.length = as.length))) = true; rw [(fR r0 r1 hm).1, (fR s0 s1 hm).1, fC hc, fF hp.fn, fY hp.kl hp.ks, fT hp.t, fX hm (by have := hp.al; have := hp.kl; omega) hp.as, decide_eq_true hp.al.symm]; rfl
theorem ok_str {z : Str} (h : z.length ≤ 10 ∧ PyData.strOk z = true) : okD (.str z) = true := by
  simp only [okD, Bool.and_eq_true, decide_eq_true_eq]
  exact ⟨by omega, h.2⟩
theorem InsP.ok (h : InsP m n d) : okD d = true ∧ noL d = true := by
  have hc4 : ∀ c ∈ nm4, okD (.str c) = true := fun c hc => ok_str ⟨by have := (nm4_ok c hc).2.1; omega, (nm4_ok c hc).2.2⟩
  have ht8 : ∀ c ∈ tyS, okD (.str c) = true := fun c hc => ok_str ⟨by have := (tyS_ok c hc).2.1; omega, (tyS_ok c hc).2.2⟩
  have hS : ∀ z ∈ (["new", "array", "null", "move", "get", "put", "call", "ask", "cast", "load", "store", "jump", "ifnull", "ifis", "choose", "tell", "return", "f", "g"] : List Str), okD (.str z) = true := fun z hz => ok_str ((by decide +kernel : ∀ z ∈ (["new", "array", "null", "move", "get", "put", "call", "ask", "cast", "load", "store", "jump", "ifnull", "ifis", "choose", "tell", "return", "f", "g"] : List Str), z.length ≤ 10 ∧ PyData.strOk z = true) z hz)
  have hcall : ∀ fn ks t as, CallP m fn ks t as → okD (.str fn) = true ∧ okAll ks = true ∧ okD (.str t) = true ∧ okAll as = true ∧ noLs ks = true ∧ noLs as = true := fun fn ks t as hp => by
    refine ⟨?_, ?_, ht8 _ hp.t, ?_, ?_, ?_⟩
    · rcases hp.fn with rfl | rfl
      · exact hS _ (by decide +kernel)
      · exact hS _ (by decide +kernel)
    · exact okAll_of fun k hk => by obtain ⟨z, hz, rfl⟩ := hp.ks k hk; exact ht8 z hz
    · exact okAll_of fun k hk => by obtain ⟨z, rfl, _⟩ := hp.as k hk; rfl
    · exact noLs_of fun k hk => by obtain ⟨z, hz, rfl⟩ := hp.ks k hk; rfl
    · exact noLs_of fun k hk => by obtain ⟨z, rfl, _⟩ := hp.as k hk; rfl
  have hI : ∀ i : Int, okD (.int i) = true := fun _ => rfl
  cases h with
  | call r s c fn ks t as r0 r1 s0 s1 hc hp =>
    obtain ⟨a1, a2, a3, a4, a5, a6⟩ := hcall fn ks t as hp
    refine ⟨?_, ?_⟩
    · show (okD (.str "call") && (true && (true && (okD (.str c) && (okD (.str fn) && (okAll ks && (okD (.str t) && (okAll as && true)))))))) = true
      rw [hS _ (by decide +kernel), hc4 c hc, a1, a2, a3, a4]; rfl
    · show (true && (true && (true && (true && (true && (noLs ks && (true && (noLs as && true)))))))) = true
      rw [a5, a6]; rfl
  | ask r s c fn ks t as r0 r1 s0 s1 hc hp =>
    obtain ⟨a1, a2, a3, a4, a5, a6⟩ := hcall fn ks t as hp
    refine ⟨?_, ?_⟩
    · show (okD (.str "ask") && (true && (true && (okD (.str c) && (okD (.str fn) && (okAll ks && (okD (.str t) && (okAll as && true)))))))) = true
      rw [hS _ (by decide +kernel), hc4 c hc, a1, a2, a3, a4]; rfl
    · show (true && (true && (true && (true && (true && (noLs ks && (true && (noLs as && true)))))))) = true
      rw [a5, a6]; rfl
  | get r s c t r0 r1 s0 s1 hc ht =>
    refine ⟨?_, rfl⟩
    show (okD (.str "get") && (true && (true && (okD (.str c) && (okD (.str "f") && (okD (.str t) && true)))))) = true
    rw [hS _ (by decide +kernel), hc4 c hc, hS _ (by decide +kernel), ht8 t ht]; rfl
  | put r s c t r0 r1 s0 s1 hc ht =>
    refine ⟨?_, rfl⟩
    show (okD (.str "put") && (true && (okD (.str c) && (okD (.str "f") && (okD (.str t) && (true && true)))))) = true
    rw [hS _ (by decide +kernel), hc4 c hc, hS _ (by decide +kernel), ht8 t ht]; rfl
  | new r c r0 r1 hc => exact ⟨by show (okD (.str "new") && (true && (okD (.str c) && true))) = true; rw [hS _ (by decide +kernel), hc4 c hc]; rfl, rfl⟩
  | array r c k r0 r1 hc => exact ⟨by show (okD (.str "array") && (true && (okD (.str c) && (true && true)))) = true; rw [hS _ (by decide +kernel), hc4 c hc]; rfl, rfl⟩
  | cast r s c r0 r1 s0 s1 hc => exact ⟨by show (okD (.str "cast") && (true && (true && (okD (.str c) && true)))) = true; rw [hS _ (by decide +kernel), hc4 c hc]; rfl, rfl⟩
  | ifis r c t r0 r1 hc => exact ⟨by show (okD (.str "ifis") && (true && (okD (.str c) && (true && true)))) = true; rw [hS _ (by decide +kernel), hc4 c hc]; rfl, rfl⟩
  | null r => exact ⟨by show (okD (.str "null") && true) = true; rw [hS _ (by decide +kernel)]; rfl, rfl⟩
  | move r s => exact ⟨by show (okD (.str "move") && true) = true; rw [hS _ (by decide +kernel)]; rfl, rfl⟩
  | load r s => exact ⟨by show (okD (.str "load") && true) = true; rw [hS _ (by decide +kernel)]; rfl, rfl⟩
  | store r s => exact ⟨by show (okD (.str "store") && true) = true; rw [hS _ (by decide +kernel)]; rfl, rfl⟩
  | jump r => exact ⟨by show (okD (.str "jump") && true) = true; rw [hS _ (by decide +kernel)]; rfl, rfl⟩
  | ifnull r => exact ⟨by show (okD (.str "ifnull") && true) = true; rw [hS _ (by decide +kernel)]; rfl, rfl⟩
  | choose r => exact ⟨by show (okD (.str "choose") && true) = true; rw [hS _ (by decide +kernel)]; rfl, rfl⟩
  | tell r => exact ⟨by show (okD (.str "tell") && true) = true; rw [hS _ (by decide +kernel)]; rfl, rfl⟩
  | ret r => exact ⟨by show (okD (.str "return") && true) = true; rw [hS _ (by decide +kernel)]; rfl, rfl⟩
theorem InsP.draw (h : InsP m n d) : ∀ e ∈ drawD d, ∃ i, e = .int i ∧ 0 ≤ i ∧ i < m := by
  have one : ∀ r : Int, 0 ≤ r → r < m → ∀ e ∈ [PyData.int r], ∃ i, e = .int i ∧ 0 ≤ i ∧ i < m := fun r a b e he => by
    rw [List.mem_singleton] at he; exact ⟨r, he, a, b⟩
  have two : ∀ r s : Int, 0 ≤ r → r < m → 0 ≤ s → s < m → ∀ e ∈ [PyData.int r, .int s], ∃ i, e = .int i ∧ 0 ≤ i ∧ i < m := fun r s a b c d e he => by
    simp only [List.mem_cons, List.not_mem_nil, or_false] at he
    rcases he with rfl | rfl
    · exact ⟨r, rfl, a, b⟩
    · exact ⟨s, rfl, c, d⟩
  have many : ∀ (r s : Int) (as : List PyData), 0 ≤ r → r < m → 0 ≤ s → s < m → (∀ a ∈ as, ∃ i, a = .int i ∧ 0 ≤ i ∧ i < m) → ∀ e ∈ PyData.int r :: .int s :: (as ++ []), ∃ i, e = .int i ∧ 0 ≤ i ∧ i < m := fun r s as a b c d h e he => by
    rw [List.append_nil] at he
    rcases List.mem_cons.mp he with rfl | he
    · exact ⟨r, rfl, a, b⟩
    rcases List.mem_cons.mp he with rfl | he
    · exact ⟨s, rfl, c, d⟩
    · exact h e he
  cases h with
  | new r c r0 r1 hc => exact one r r0 r1
  | array r c k r0 r1 hc => exact one r r0 r1
  | null r r0 r1 => exact one r r0 r1
  | move r s r0 r1 s0 s1 => exact two r s r0 r1 s0 s1
  | get r s c t r0 r1 s0 s1 hc ht => exact two r s r0 r1 s0 s1
  | put r s c t r0 r1 s0 s1 hc ht => exact two r s r0 r1 s0 s1
  | call r s c fn ks t as r0 r1 s0 s1 hc hp => exact many r s as r0 r1 s0 s1 hp.as
  | ask r s c fn ks t as r0 r1 s0 s1 hc hp => exact many r s as r0 r1 s0 s1 hp.as
  | cast r s c r0 r1 s0 s1 hc => exact two r s r0 r1 s0 s1
  | load r s r0 r1 s0 s1 => exact two r s r0 r1 s0 s1
  | store r s r0 r1 s0 s1 => exact two r s r0 r1 s0 s1
  | jump t t0 t1 => exact fun e he => nomatch he
  | ifnull r t r0 r1 => exact one r r0 r1
  | ifis r c t r0 r1 hc => exact one r r0 r1
  | choose t => exact fun e he => nomatch he
  | tell r r0 r1 => exact one r r0 r1
  | ret r r0 r1 => exact one r r0 r1
theorem InsP.tgt (h : InsP m n d) : ∀ e ∈ tgtD d, ∃ i, e = .int i ∧ 0 ≤ i ∧ i < n := by
  have one : ∀ r : Int, 0 ≤ r → r < n → ∀ e ∈ [PyData.int r], ∃ i, e = .int i ∧ 0 ≤ i ∧ i < n := fun r a b e he => by
    rw [List.mem_singleton] at he; exact ⟨r, he, a, b⟩
  cases h with
  | jump t t0 t1 => exact one t t0 t1
  | ifnull r t r0 r1 t0 t1 => exact one t t0 t1
  | ifis r c t r0 r1 hc t0 t1 => exact one t t0 t1
  | choose t t0 t1 => exact one t t0 t1
  | _ => exact fun e he => nomatch he
theorem InsP.shape (h : InsP m n d) : ∃ z ds, d = .tuple (.str z :: ds) ∧ ds.length ≤ 7 ∧ 1 ≤ ds.length := by
  cases h <;> exact ⟨_, _, rfl, by simp, by simp⟩
end
end K07
set_option Elab.async false
set_option linter.all false
set_option maxRecDepth 100000
set_option maxHeartbeats 0
namespace K07
open PySem PySem.Spec PyProof.Rows L2 EX2
def spMade : Sp := fun vs H Q _ => ∃ (p : Addr) (m n : Int), vs = [.ref p, .int m, .int n] ∧ Sc p H ∧ 0 < m ∧ m ≤ 10 ∧ 0 < n ∧ n ≤ 40 ∧ ∀ x d H', Lx p H H' → Dz p H' x d → InsP m n d → Q x H'
theorem len3 {α : Type} {l : List α} (h : l.length = 3) : ∃ a b c, l = [a, b, c] := by
  match l, h with
  | [a, b, c], _ => exact ⟨a, b, c, rfl⟩
section
variable {P : Program} {w : World} {K : PySem.W.Frag} {mg : Str → Option Value} {base : Heap} {f : Addr} {fd : FuncData}
abbrev nmade : List Str := ["_law_source_here", "_law_size", "_law_length", "_law_way", "_law_first", "_law_second", "_law_third", "_law_name", "_law_target", "_law_some", "_law_part"]
theorem scmade : FnScope nmade ["_law_source_here", "_law_size", "_law_length"] (defScope smade) := ⟨rfl, rfl, rfl, by decide +kernel, rfl, by decide +kernel, by decide +kernel⟩
theorem ok_made (F : FnP K "_law_made" smade f fd) (D : Defs w K mg) : FnOk P w K mg base CX0 5 f fd ["_law_source_here", "_law_size", "_law_length"] spMade := by
  have T := D.t
  obtain ⟨fD, fdD, gD, FD⟩ := D.draw
  have GD : FnOk P w K mg base CX0 1 fD fdD ["_law_source_here", "_law_amount"] spDr := okL_draw FD D
  have bD : Binds K fdD ["_law_source_here", "_law_amount"] [] := FD.bindsN fun _ _ _ _ _ _ us hl => match us, hl with | [_, _], _ => rfl
  obtain ⟨fP, fdP, gP, FP⟩ := D.pick
  have GP : FnOk P w K mg base CX0 2 fP fdP ["_law_source_here", "_law_items"] spPick := ok_pick FP D
  have bP : Binds K fdP ["_law_source_here", "_law_items"] [] := FP.bindsN fun _ _ _ _ _ _ us hl => match us, hl with | [_, _], _ => rfl
  obtain ⟨fT, fdT, gT, FT⟩ := D.typeL
  have GT : FnOk P w K mg base CX0 3 fT fdT ["_law_source_here"] spTy := ok_typeL FT D
  have bT : Binds K fdT ["_law_source_here"] [] := FT.bindsN fun _ _ _ _ _ _ us hl => match us, hl with | [_], _ => rfl
  obtain ⟨fC, fdC, gC, FC⟩ := D.call
  have GC : FnOk P w K mg base CX0 4 fC fdC ["_law_source_here", "_law_size"] spCall := ok_call FC D
  have bC : Binds K fdC ["_law_source_here", "_law_size"] [] := FC.bindsN fun _ _ _ _ _ _ us hl => match us, hl with | [_, _], _ => rfl
  refine F.ok scmade (fun vs H Q E h => ?_) (fun cdv A outer s H vs Q E hr h => ?_)
  · obtain ⟨p, m, n, rfl, _⟩ := h
    rfl
  · obtain ⟨p, m, n, rfl, hs, hm0, hm1, hn0, hn1, hQ⟩ := h
    refine ⟨_, PSs.nox (pss_cons (ps_set (i := 3) scmade.nd rfl (Or.inl rfl) (pe_call GD (hr.mono (by decide)) rfl gD FD.kp bD .nil pass0 (pa_cons (pv 0) (pa_cons pe_int pa_nil))))
      (pss_cons (ps_asg (pe_lc (own := [("_law_part", 10)]) (g := gName 10) (tt := tYes) rfl scmade.nd (pi_range1 rfl T.rng (pa_cons pe_int pa_nil)) (blkOk_by (N := nmade) (sc := defScope smade) (by decide +kernel)) (fun _ _ _ _ _ => (pg_name (i := 10) scmade.nd rfl (Or.inl rfl))) (fun _ _ _ _ _ => pts_nil) (fun _ _ _ _ _ => (pe_call GD (hr.mono (by decide)) rfl gD FD.kp bD .nil pass0 (pa_cons (pv 0) (pa_cons (pv 1) pa_nil))))) (pg_unl rfl (pgs_cons (pg_name (i := 4) scmade.nd rfl (Or.inl rfl)) (pgs_cons (pg_name (i := 5) scmade.nd rfl (Or.inl rfl)) (pgs_cons (pg_name (i := 6) scmade.nd rfl (Or.inl rfl)) pgs_nil)))))
      (pss_cons (ps_par (i := 7) (j := 8) rfl scmade.nd rfl rfl (by decide) rfl rfl (pa_cons (pe_call GP (hr.mono (by decide)) rfl gP FP.kp bP .nil pass0 (pa_cons (pv 0) (pa_cons (pe_lst (pa_cons pe_str (pa_cons pe_str (pa_cons pe_str (pa_cons pe_str pa_nil))))) pa_nil))) (pa_cons (pe_call GD (hr.mono (by decide)) rfl gD FD.kp bD .nil pass0 (pa_cons (pv 0) (pa_cons (pv 2) pa_nil))) pa_nil)) (by rfl))
      (pss_cons (ps_if (pt_cmpR op_lt (pv 3) pe_int (nomark _))
        (pss_one (ps_ret (pe_ix ix_list (pe_lst (pa_cons (pe_tup (pa_cons pe_str (pa_cons (pv 4) (pa_cons (pv 7) pa_nil)))) (pa_cons (pe_tup (pa_cons pe_str (pa_cons (pv 4) (pa_cons (pv 7) (pa_cons (pv 6) pa_nil))))) (pa_cons (pe_tup (pa_cons pe_str (pa_cons (pv 4) pa_nil))) (pa_cons (pe_tup (pa_cons pe_str (pa_cons (pv 4) (pa_cons (pv 5) pa_nil)))) pa_nil))))) (pv 3) (fun _ _ => rfl))))
        pss_nil)
      (pss_cons (ps_if (pt_cmpR op_eq (pv 3) pe_int (nomark _))
        (pss_one (ps_ret (pe_tup (pa_cons pe_str (pa_cons (pv 4) (pa_cons (pv 5) (pa_cons (pv 7) (pa_cons pe_str (pa_cons (pe_call GT (hr.mono (by decide)) rfl gT FT.kp bT .nil pass0 (pa_cons (pv 0) pa_nil)) pa_nil)))))))))
        pss_nil)
      (pss_cons (ps_if (pt_cmpR op_eq (pv 3) pe_int (nomark _))
        (pss_one (ps_ret (pe_tup (pa_cons pe_str (pa_cons (pv 4) (pa_cons (pv 7) (pa_cons pe_str (pa_cons (pe_call GT (hr.mono (by decide)) rfl gT FT.kp bT .nil pass0 (pa_cons (pv 0) pa_nil)) (pa_cons (pv 5) pa_nil)))))))))
        pss_nil)
      (pss_cons (ps_if (pt_cmpR op_eq (pv 3) pe_int (nomark _))
        (pss_one (ps_ret (pe_op op_catT (pe_tup (pa_cons pe_str (pa_cons (pv 4) (pa_cons (pv 5) (pa_cons (pv 7) pa_nil))))) (pe_call GC hr rfl gC FC.kp bC .nil pass0 (pa_cons (pv 0) (pa_cons (pv 1) pa_nil))))))
        pss_nil)
      (pss_cons (ps_if (pt_cmpR op_eq (pv 3) pe_int (nomark _))
        (pss_one (ps_ret (pe_op op_catT (pe_tup (pa_cons pe_str (pa_cons (pv 4) (pa_cons (pv 5) (pa_cons (pv 7) pa_nil))))) (pe_call GC hr rfl gC FC.kp bC .nil pass0 (pa_cons (pv 0) (pa_cons (pv 1) pa_nil))))))
        pss_nil)
      (pss_cons (ps_set (i := 9) scmade.nd rfl (Or.inl rfl) (pe_lst (pa_cons (pe_tup (pa_cons pe_str (pa_cons (pv 4) (pa_cons (pv 5) (pa_cons (pv 7) pa_nil))))) (pa_cons (pe_tup (pa_cons pe_str (pa_cons (pv 4) (pa_cons (pv 5) (pa_cons pe_int pa_nil))))) (pa_cons (pe_tup (pa_cons pe_str (pa_cons (pv 4) (pa_cons pe_int (pa_cons (pv 5) pa_nil))))) pa_nil)))))
      (pss_cons (ps_set (i := 9) scmade.nd rfl (Or.inl rfl) (pe_op op_cat (pv 9) (pe_lst (pa_cons (pe_tup (pa_cons pe_str (pa_cons (pv 8) pa_nil))) (pa_cons (pe_tup (pa_cons pe_str (pa_cons (pv 4) (pa_cons (pv 8) pa_nil)))) (pa_cons (pe_tup (pa_cons pe_str (pa_cons (pv 4) (pa_cons (pv 7) (pa_cons (pv 8) pa_nil))))) (pa_cons (pe_tup (pa_cons pe_str (pa_cons (pv 8) pa_nil))) pa_nil)))))))
      (pss_one (ps_ret (pe_ix ix_list (pe_op op_cat (pv 9) (pe_lst (pa_cons (pe_tup (pa_cons pe_str (pa_cons (pv 4) pa_nil))) (pa_cons (pe_tup (pa_cons pe_str (pa_cons (pv 4) pa_nil))) pa_nil)))) (pe_op op_sub (pv 3) pe_int) (fun _ _ => rfl)))))))))))))), ?_⟩
    refine ⟨_, rfl, p, _, rfl, hs, by decide, by decide, fun way H1 w0 w1 lx1 => ?_⟩
    refine ⟨_, rfl, by decide, by decide, fun L1 hL1 => ?_⟩
    refine lc_lx walk_range lx1.sc hL1 (fun _ _ => trivial) (fun _ d => ∃ i, d = .int i ∧ 0 ≤ i ∧ i < m) (by decide) (fun j H2 x H3 y => y.1) ?_ ?_
    · rintro j x H4 hj lx4 _ Qt hQt
      exact ⟨rfl, _, rfl, _, rfl, p, m, rfl, lx4.sc, hm0, by omega, fun i H5 i0 i1 lx5 => hQt _ (.int i) H5 lx5 (.int i) rfl ⟨i, rfl, i0, i1⟩⟩
    intro H2 xs ds lx2 hL1s hds hlen _ hR
    obtain ⟨d1, d2, d3, rfl⟩ := len3 (show ds.length = 3 from hlen)
    obtain ⟨r, rfl, r0, r1⟩ := hR 0 _ rfl
    obtain ⟨q, rfl, q0, q1⟩ := hR 1 _ rfl
    obtain ⟨k, rfl, k0, k1⟩ := hR 2 _ rfl
    obtain rfl : xs = [.int r, .int q, .int k] := by
      cases hds with
      | cons a t => cases t with
        | cons b t => cases t with
          | cons c t => cases t; cases a; cases b; cases c; rfl
    refine ⟨L1, _, rfl, SqL.of hL1s, rfl, _, _, rfl, _, _, rfl, _, _, rfl, rfl, ?_⟩
    have lxA := lx1.trans lx2
    refine ⟨_, rfl, le_line (by simp), fun l1 h1 => ⟨p, l1, _, rfl, lxA.sc.ex (Evl.Ex.new h1), lxA.sc.ne h1, upd_same, by simp, by simp, fun x H3 hx lx3 => ?_⟩⟩
    have lxB := (lxA.then (Evl.Ex.new h1)).trans lx3
    obtain ⟨c, hc, rfl⟩ : ∃ c, c ∈ nm4 ∧ x = .str c := by
      simp only [List.mem_cons, List.not_mem_nil, or_false] at hx
      rcases hx with rfl | rfl | rfl | rfl <;> exact ⟨_, by decide +kernel, rfl⟩
    refine ⟨_, rfl, _, rfl, p, n, rfl, lxB.sc, hn0, by omega, fun t H5 t0 t1 lx4 => ⟨_, _, rfl, ?_⟩⟩
    have lxC := lxB.trans lx4
    clear hL1s hds hlen lx4 lx3
    have step : ∀ {H8 : Hp} {a : Addr} {us : List V} {es : List PyData} {as : List V} {ds : List PyData}, Lx p H H8 → H8 a = none → DzAll p H8 us es → DzAll p H8 as ds → (∀ e ∈ ds, InsP m n e) → InsP m n (.tuple es) →
        Lx p H (upd H8 a (.tup us)) ∧ DzAll p (upd H8 a (.tup us)) (as ++ [.ref a]) (ds ++ [.tuple es]) ∧ ∀ e ∈ ds ++ [.tuple es], InsP m n e := by
      intro H8 a us es as ds l ha hu hd hi he
      have e8 := Evl.Ex.new (o := .tup us) ha
      refine ⟨l.then e8, DqAll.app (hd.lx (.of l.sc e8)) (.cons (Dz.tupN l.sc ha hu) .nil), fun e q => ?_⟩
      rcases List.mem_append.mp q with q | q
      · exact hi e q
      · rw [List.mem_singleton] at q; subst q; exact he
    have stepL : ∀ {H8 : Hp} {a : Addr} {o : HO} {as : List V} {ds : List PyData}, Lx p H H8 → H8 a = none → DzAll p H8 as ds → Lx p H (upd H8 a o) ∧ DzAll p (upd H8 a o) as ds := by
      intro H8 a o as ds l ha hd
      have e8 := Evl.Ex.new (o := o) ha
      exact ⟨l.then e8, hd.lx (.of l.sc e8)⟩
    have fin : ∀ {H8 : Hp} {as : List V} {ds : List PyData} {i : Int}, Lx p H H8 → DzAll p H8 as ds → (∀ e ∈ ds, InsP m n e) → 0 ≤ i → i < (as.length : Int) → ∃ v, L2.atI as i = some v ∧ Q v H8 := by
      intro H8 as ds i l hd hi i0 i1
      obtain ⟨k, rfl⟩ := Int.eq_ofNat_of_zero_le i0
      have hk : k < as.length := by omega
      obtain ⟨e, he, hx⟩ := hd.get (List.getElem?_eq_getElem hk)
      exact ⟨_, atI_nat (List.getElem?_eq_getElem hk), hQ _ e _ l hx (hi e (List.mem_of_getElem? he))⟩
    refine ⟨_, rfl, _, _, rfl, rfl, _, rfl, ?_⟩
    refine ite2 (fun hw => ?_) (fun hw => ?_)
    · have hw' := of_decide_eq_true hw
      refine ⟨_, rfl, _, rfl, le_line (by simp), fun a1 h1 => ?_⟩
      obtain ⟨l1, z1, i1⟩ := step (as := []) (ds := []) lxC h1 (.cons (.str "new") (.cons (.int r) (.cons (.str c) .nil))) .nil (fun e he => nomatch he) (.new r c r0 r1 hc)
      refine ⟨_, rfl, _, rfl, _, rfl, le_line (by simp), fun a2 h2 => ?_⟩
      obtain ⟨l2, z2, i2⟩ := step l1 h2 (.cons (.str "array") (.cons (.int r) (.cons (.str c) (.cons (.int k) .nil)))) z1 i1 (.array r c k r0 r1 hc k0 (by omega))
      refine ⟨_, rfl, le_line (by simp), fun a3 h3 => ?_⟩
      obtain ⟨l3, z3, i3⟩ := step l2 h3 (.cons (.str "null") (.cons (.int r) .nil)) z2 i2 (.null r r0 r1)
      refine ⟨_, rfl, _, rfl, le_line (by simp), fun a4 h4 => ?_⟩
      obtain ⟨l4, z4, i4⟩ := step l3 h4 (.cons (.str "move") (.cons (.int r) (.cons (.int q) .nil))) z3 i3 (.move r q r0 r1 q0 q1)
      refine ⟨le_line (by simp), fun a5 h5 => ?_⟩
      obtain ⟨l5, z5⟩ := stepL (o := .lst [.ref a1, .ref a2, .ref a3, .ref a4]) l4 h5 z4
      obtain ⟨v, hv, hq⟩ := fin l5 z5 i4 w0 (show way < 4 from hw')
      exact ⟨_, rfl, a5, _, way, v, rfl, rfl, SqL.of upd_same, hv, hq⟩
    have hw4 : 4 ≤ way := by
      have : ¬ way < 4 := fun z => hw (decide_eq_true z)
      omega
    have eqi : ∀ k : Int, decide (V.int way = V.int k) = decide (way = k) := fun k => decide_eq_decide.mpr ⟨fun e => V.int.inj e, fun e => by rw [e]⟩
    refine ⟨_, rfl, rfl, _, rfl, ?_⟩
    rw [eqi]
    refine ite2 (fun hw => ?_) (fun hw5 => ?_)
    · refine ⟨_, rfl, _, rfl, _, rfl, _, rfl, p, rfl, lxC.sc, fun ty H6 hty lx6 => ⟨le_line (by simp), fun a1 h1 => ?_⟩⟩
      exact hQ _ _ _ ((lxC.trans lx6).then (Evl.Ex.new h1)) (Dz.tupN lx6.sc h1 (.cons (.str "get") (.cons (.int r) (.cons (.int q) (.cons (.str c) (.cons (.str "f") (.cons (.str ty) .nil))))))) (.get r q c ty r0 r1 q0 q1 hc hty)
    refine ⟨_, rfl, rfl, _, rfl, ?_⟩
    rw [eqi]
    refine ite2 (fun hw => ?_) (fun hw6 => ?_)
    · refine ⟨_, rfl, _, rfl, _, rfl, p, rfl, lxC.sc, fun ty H6 hty lx6 => ⟨_, rfl, le_line (by simp), fun a1 h1 => ?_⟩⟩
      exact hQ _ _ _ ((lxC.trans lx6).then (Evl.Ex.new h1)) (Dz.tupN lx6.sc h1 (.cons (.str "put") (.cons (.int r) (.cons (.str c) (.cons (.str "f") (.cons (.str ty) (.cons (.int q) .nil))))))) (.put r q c ty r0 r1 q0 q1 hc hty)
    have tcat : ∀ (wd : Str) (hwd : ∀ fn ks t as, CallP m fn ks t as → InsP m n (.tuple [.str wd, .int r, .int q, .str c, .str fn, .tuple ks, .str t, .tuple as])) (a1 : Addr) (h1 : H5 a1 = none),
        spCall [.ref p, .int m] (upd H5 a1 (.tup [.str wd, .int r, .int q, .str c])) (fun x H6 => rCatT K (.ref a1) x H6 Q) E0 := by
      intro wd hwd a1 h1
      have e1 := Evl.Ex.new (o := .tup [.str wd, .int r, .int q, .str c]) h1
      refine ⟨p, m, rfl, lxC.sc.ex e1, hm0, hm1, fun x fn ks t as H6 lx6 hx hp => ?_⟩
      obtain ⟨a2, ys, rfl, h2, hall⟩ := Dq.tupI hx
      have hl2 := DqAll.length hall
      have ha1 : H6 a1 = some (.tup [.str wd, .int r, .int q, .str c]) := lx6.at upd_same (lxC.sc.ne h1)
      have hn2 : a2 ≠ p := rm_ne_of h2
      rw [rm_ne hn2] at h2
      refine ⟨a1, a2, _, ys, rfl, rfl, SqT.of ha1, SqT.of h2, by simp, le_line (by rw [hl2]; simp), fun hy => ?_, fun _ a3 h3 => ?_⟩
      · rw [hy] at hl2
        cases hl2
      · have e3 := Evl.Ex.new (o := .tup ([.str wd, .int r, .int q, .str c] ++ ys)) h3
        refine hQ _ (.tuple [.str wd, .int r, .int q, .str c, .str fn, .tuple ks, .str t, .tuple as]) _ (((lxC.then e1).trans lx6).then e3) (Dz.tupN (ds := [.str wd, .int r, .int q, .str c] ++ [.str fn, .tuple ks, .str t, .tuple as]) lx6.sc h3 (DqAll.app (.cons (.str wd) (.cons (.int r) (.cons (.int q) (.cons (.str c) .nil)))) hall)) (hwd fn ks t as hp)
    refine ⟨_, rfl, rfl, _, rfl, ?_⟩
    rw [eqi]
    refine ite2 (fun hw => ?_) (fun hw7 => ?_)
    · refine ⟨_, rfl, _, rfl, _, rfl, le_line (by simp), fun a1 h1 => ⟨_, rfl, _, rfl, ?_⟩⟩
      exact tcat "call" (fun fn ks t as hp => .call r q c fn ks t as r0 r1 q0 q1 hc hp) a1 h1
    refine ⟨_, rfl, rfl, _, rfl, ?_⟩
    rw [eqi]
    refine ite2 (fun hw => ?_) (fun hw8 => ?_)
    · refine ⟨_, rfl, _, rfl, _, rfl, le_line (by simp), fun a1 h1 => ⟨_, rfl, _, rfl, ?_⟩⟩
      exact tcat "ask" (fun fn ks t as hp => .ask r q c fn ks t as r0 r1 q0 q1 hc hp) a1 h1
    have hw8' : 8 ≤ way := by
      have a5 : ¬ way = 4 := fun z => hw5 (decide_eq_true z)
      have a6 : ¬ way = 5 := fun z => hw6 (decide_eq_true z)
      have a7 : ¬ way = 6 := fun z => hw7 (decide_eq_true z)
      have a8 : ¬ way = 7 := fun z => hw8 (decide_eq_true z)
      omega
    -- three
    refine ⟨_, rfl, _, rfl, _, rfl, le_line (by simp), fun a1 h1 => ?_⟩
    obtain ⟨l1, z1, i1⟩ := step (as := []) (ds := []) lxC h1 (.cons (.str "cast") (.cons (.int r) (.cons (.int q) (.cons (.str c) .nil)))) .nil (fun e he => nomatch he) (.cast r q c r0 r1 q0 q1 hc)
    refine ⟨_, rfl, _, rfl, le_line (by simp), fun a2 h2 => ?_⟩
    obtain ⟨l2, z2, i2⟩ := step l1 h2 (.cons (.str "load") (.cons (.int r) (.cons (.int q) (.cons (.int 1) .nil)))) z1 i1 (.load r q r0 r1 q0 q1)
    refine ⟨_, rfl, _, rfl, le_line (by simp), fun a3 h3 => ?_⟩
    obtain ⟨l3, z3, i3⟩ := step l2 h3 (.cons (.str "store") (.cons (.int r) (.cons (.int 0) (.cons (.int q) .nil)))) z2 i2 (.store r q r0 r1 q0 q1)
    refine ⟨le_line (by simp), fun b1 g1 => ?_⟩
    obtain ⟨l4, z4⟩ := stepL (o := .lst [.ref a1, .ref a2, .ref a3]) l3 g1 z3
    have hb1 : (upd _ b1 (.lst [.ref a1, .ref a2, .ref a3])) b1 = some (.lst [.ref a1, .ref a2, .ref a3]) := upd_same (H := upd (upd (upd H5 a1 (.tup [.str "cast", .int r, .int q, .str c])) a2 (.tup [.str "load", .int r, .int q, .int 1])) a3 (.tup [.str "store", .int r, .int 0, .int q]))
    generalize (upd (upd (upd (upd H5 a1 (.tup [.str "cast", .int r, .int q, .str c])) a2 (.tup [.str "load", .int r, .int q, .int 1])) a3 (.tup [.str "store", .int r, .int 0, .int q])) b1 (.lst [.ref a1, .ref a2, .ref a3])) = H6 at l4 z4 hb1
    -- four
    refine ⟨_, rfl, _, rfl, le_line (by simp), fun a4 h4 => ?_⟩
    have f4 := Evl.Ex.new (o := .tup [.str "jump", .int t]) h4
    obtain ⟨l5, z5, i5⟩ := step l4 h4 (.cons (.str "jump") (.cons (.int t) .nil)) z4 i3 (.jump t t0 t1)
    refine ⟨_, rfl, _, rfl, le_line (by simp), fun a5 h5 => ?_⟩
    have f5 := Evl.Ex.new (o := .tup [.str "ifnull", .int r, .int t]) h5
    obtain ⟨l6, z6, i6⟩ := step l5 h5 (.cons (.str "ifnull") (.cons (.int r) (.cons (.int t) .nil))) z5 i5 (.ifnull r t r0 r1 t0 t1)
    refine ⟨_, rfl, _, rfl, _, rfl, le_line (by simp), fun a6 h6 => ?_⟩
    have f6 := Evl.Ex.new (o := .tup [.str "ifis", .int r, .str c, .int t]) h6
    obtain ⟨l7, z7, i7⟩ := step l6 h6 (.cons (.str "ifis") (.cons (.int r) (.cons (.str c) (.cons (.int t) .nil)))) z6 i6 (.ifis r c t r0 r1 hc t0 t1)
    refine ⟨_, rfl, le_line (by simp), fun a7 h7 => ?_⟩
    have f7 := Evl.Ex.new (o := .tup [.str "choose", .int t]) h7
    obtain ⟨l8, z8, i8⟩ := step l7 h7 (.cons (.str "choose") (.cons (.int t) .nil)) z7 i7 (.choose t t0 t1)
    refine ⟨le_line (by simp), fun b2 g2 => ?_⟩
    have f8 := Evl.Ex.new (o := .lst [.ref a4, .ref a5, .ref a6, .ref a7]) g2
    obtain ⟨l9, z9⟩ := stepL (o := .lst [.ref a4, .ref a5, .ref a6, .ref a7]) l8 g2 z8
    have hb2 := (((f4.trans f5).trans f6).trans f7).trans f8 _ _ hb1
    have hb3 := upd_same (H := upd (upd (upd (upd H6 a4 (.tup [.str "jump", .int t])) a5 (.tup [.str "ifnull", .int r, .int t])) a6 (.tup [.str "ifis", .int r, .str c, .int t])) a7 (.tup [.str "choose", .int t])) (a := b2) (o := .lst [.ref a4, .ref a5, .ref a6, .ref a7])
    generalize upd (upd (upd (upd (upd H6 a4 (.tup [.str "jump", .int t])) a5 (.tup [.str "ifnull", .int r, .int t])) a6 (.tup [.str "ifis", .int r, .str c, .int t])) a7 (.tup [.str "choose", .int t])) b2 (.lst [.ref a4, .ref a5, .ref a6, .ref a7]) = H7 at l9 z9 hb2 hb3
    refine ⟨b1, b2, _, _, rfl, rfl, hb2, hb3, le_line (by simp), fun b3 g3 => ?_⟩
    obtain ⟨l10, z10⟩ := stepL (o := .lst ([.ref a1, .ref a2, .ref a3] ++ [.ref a4, .ref a5, .ref a6, .ref a7])) l9 g3 z9
    have hb4 := upd_same (H := H7) (a := b3) (o := .lst ([.ref a1, .ref a2, .ref a3] ++ [.ref a4, .ref a5, .ref a6, .ref a7]))
    generalize upd H7 b3 (.lst ([.ref a1, .ref a2, .ref a3] ++ [.ref a4, .ref a5, .ref a6, .ref a7])) = H8 at l10 z10 hb4
    -- two
    refine ⟨_, rfl, _, rfl, le_line (by simp), fun a8 h8 => ?_⟩
    have f9 := Evl.Ex.new (o := .tup [.str "tell", .int r]) h8
    obtain ⟨l11, z11, i11⟩ := step l10 h8 (.cons (.str "tell") (.cons (.int r) .nil)) z10 i8 (.tell r r0 r1)
    refine ⟨_, rfl, le_line (by simp), fun a9 h9 => ?_⟩
    have f10 := Evl.Ex.new (o := .tup [.str "return", .int r]) h9
    obtain ⟨l12, z12, i12⟩ := step l11 h9 (.cons (.str "return") (.cons (.int r) .nil)) z11 i11 (.ret r r0 r1)
    refine ⟨le_line (by simp), fun b4 g4 => ?_⟩
    have f11 := Evl.Ex.new (o := .lst [.ref a8, .ref a9]) g4
    obtain ⟨l13, z13⟩ := stepL (o := .lst [.ref a8, .ref a9]) l12 g4 z12
    have hb5 := ((f9.trans f10).trans f11) _ _ hb4
    refine ⟨b3, b4, _, _, rfl, rfl, hb5, upd_same, le_line (by simp), fun b5 g5 => ?_⟩
    obtain ⟨l14, z14⟩ := stepL (o := .lst ([.ref a1, .ref a2, .ref a3] ++ [.ref a4, .ref a5, .ref a6, .ref a7] ++ [.ref a8, .ref a9])) l13 g5 z13
    obtain ⟨v, hv, hq⟩ := fin (i := way - 8) l14 z14 i12 (by omega) (by show way - 8 < 9; omega)
    exact ⟨_, rfl, _, _, rfl, rfl, b5, _, way - 8, v, rfl, rfl, SqL.of upd_same, hv, hq⟩
end
end K07
set_option Elab.async false
set_option linter.all false
set_option maxRecDepth 100000
set_option maxHeartbeats 0
namespace K07
open PySem PySem.Spec PyProof.Rows L2 EX2
/-! ### the parts of a method -/
def seqD (m : Int) : PyData → Bool
  | .list ds => decide ((ds.length : Int) ≤ m)
  | .tuple ds => decide ((ds.length : Int) ≤ m)
  | _ => false
def spSeq : Sp := fun vs H Q _ => ∃ (x : V) (d : PyData) (m : Int), vs = [x, .int m] ∧ Dq H x d ∧ ∀ H', Evl.Ex H H' → Q (.bl (seqD m d)) H'
theorem kit_list2 (d : PyData) {K : PySem.W.Frag} : PySem.W.kitAny K (.type (tyD d)) [.type "list", .type "tuple"] = some (isLstD d || isTupD d) := by
  refine kitAny_cons (kit_ty (kit_lstD d)) (fun h => kitAny_cons (kit_ty (kit_tupD d)) (fun h2 => by rw [h, h2]; exact kitAny_nil) (fun h2 => by rw [h, h2]; rfl)) (fun h => by rw [h]; rfl)
section
variable {P : Program} {w : World} {K : PySem.W.Frag} {mg : Str → Option Value} {base : Heap} {f : Addr} {fd : FuncData}
abbrev nseq : List Str := ["obj", "most"]
theorem scseq : FnScope nseq ["obj", "most"] (defScope ssequence) := ⟨rfl, rfl, rfl, by decide +kernel, rfl, by decide +kernel, by decide +kernel⟩
theorem ok_seq (F : FnP K "is_sequence" ssequence f fd) (D : Defs w K mg) : FnOk P w K mg base CX0 1 f fd ["obj", "most"] spSeq := by
  have T := D.t
  refine F.ok scseq (fun vs H Q E h => ?_) (fun cdv A outer s H vs Q E hr h => ?_)
  · obtain ⟨x, d, m, rfl, _⟩ := h
    rfl
  · obtain ⟨x, d, m, rfl, hd, hQ⟩ := h
    refine ⟨_, PSs.nox (pss_one (ps_ret (pe_and (pe_callB call_isiT rfl T.isi boot_isi (pa_cons (pv 0) (pa_cons (pe_tup (pa_cons (pe_bltn rfl T.lst boot_list (v := .ty "list") rfl) (pa_cons (pe_bltn rfl T.tup boot_tuple (v := .ty "tuple") rfl) pa_nil))) pa_nil))) (pe_one (pe_cmpR op_le (pe_callB call_len rfl T.len boot_len (pa_cons (pv 0) pa_nil)) (pv 1) (nomark _)))))), ?_⟩
    refine ⟨_, rfl, le_line (by simp), fun t1 h1 => ?_⟩
    have e1 := Evl.Ex.new (o := .tup [.ty "list", .ty "tuple"]) h1
    have hd1 := hd.ext e1
    refine ⟨x, t1, _, _, _, _, rfl, upd_same, .cons (.ty _) (.cons (.ty _) .nil), ty_of hd1, kit_list2 d, _, rfl, ?_⟩
    have q := hQ _ e1
    cases d with
    | list ds =>
      obtain ⟨a, xs, rfl, ha, hall⟩ := hd1.lstI
      refine iteT ⟨_, rfl, _, _, rfl, .inl ⟨_, SqL.of ha, rfl⟩, _, rfl, _, _, rfl, rfl, ?_⟩
      rw [DqAll.length hall]
      exact q
    | tuple ds =>
      obtain ⟨a, xs, rfl, ha, hall⟩ := hd1.tupI
      refine iteT ⟨_, rfl, _, _, rfl, .inr ⟨_, SqT.of ha, rfl⟩, _, rfl, _, _, rfl, rfl, ?_⟩
      rw [DqAll.length hall]
      exact q
    | _ => exact iteF q
def spSize : Sp := fun vs H Q _ => ∃ (x : V) (d : PyData) (n : Int), vs = [x, .int n] ∧ Dq H x d ∧ okD d = true ∧ ∀ H', Evl.Ex H H' → Q (.bl (inR (1 + n) 10 d)) H'
abbrev nsize : List Str := ["value", "params"]
theorem scsize : FnScope nsize ["value", "params"] (defScope ssize) := ⟨rfl, rfl, rfl, by decide +kernel, rfl, by decide +kernel, by decide +kernel⟩
theorem ok_size (F : FnP K "is_size" ssize f fd) (D : Defs w K mg) : FnOk P w K mg base CX0 2 f fd ["value", "params"] spSize := by
  have T := D.t
  obtain ⟨tS, gS⟩ := D.size10
  obtain ⟨fI, fdI, gI, FI⟩ := D.is_integer
  have GI : FnOk P w K mg base CX0 1 fI fdI ["obj"] (spD isIntD) := ok_integer FI T
  have bI : Binds K fdI ["obj"] [] := FI.bindsN fun _ _ _ _ _ _ us hl => match us, hl with | [_], _ => rfl
  refine F.ok scsize (fun vs H Q E h => ?_) (fun cdv A outer s H vs Q E hr h => ?_)
  · obtain ⟨x, d, m, rfl, _⟩ := h
    rfl
  · obtain ⟨x, d, n, rfl, hd, hk, hQ⟩ := h
    refine ⟨_, PSs.nox (pss_one (ps_ret (pe_and (pe_call GI hr rfl gI FI.kp bI .nil pass0 (pa_cons (pv 0) pa_nil)) (pe_one (pe_chain op_le op_le (pe_op op_add pe_int (pv 1)) (pv 0) (pe_glob rfl gS (v := .int 10) ⟨tS, rfl⟩)))))), ?_⟩
    refine ⟨_, rfl, x, d, rfl, hd, hk, fun H' e => ⟨_, rfl, ?_⟩⟩
    have q := hQ H' e
    refine ite2 (fun h => ?_) (fun h => ?_)
    · cases d with
      | int i =>
        cases hd
        refine ⟨_, rfl, _, _, rfl, rfl, _, rfl, _, _, rfl, rfl, _, rfl, ?_⟩
        have q2 : Q (.bl (decide (1 + n ≤ i) && decide (i ≤ 10))) H' := q
        refine ite2 (fun h1 => ?_) (fun h1 => ?_)
        · refine ⟨_, _, rfl, rfl, ?_⟩
          rw [h1, Bool.true_and] at q2
          exact q2
        · rw [show decide (1 + n ≤ i) = false from by simpa using h1, Bool.false_and] at q2
          exact q2
      | _ => cases h
    · cases d <;> first | exact q | exact absurd rfl h
end
end K07
set_option Elab.async false
set_option linter.all false
set_option maxRecDepth 100000
set_option maxHeartbeats 4000000
/-! l.extend(t), t a tuple -/
namespace EX2
open PySem PySem.Spec PyProof.Rows L2
theorem notLongL' {n : Nat} (h : n ≤ sizeLine) : Builtin.List.listTooLong n = false := by
  unfold Builtin.List.listTooLong
  have := sizeLine_eq
  exact decide_eq_false (by omega)
open AutoSeq1 in
theorem list_extend_tupG (l : Addr) (items : Array Value) (n : Nat) (b : Addr) (items2 : Array Value) (n2 : Nat) (dd : Option Addr) (sl : Array (Option Value)) (hs0 : ¬(!items.isEmpty && Builtin.List.listTooLong (items.size + items2.size)) = true) (hs1 : items.size ≤ sizeLine) (hs2 : items.size + items2.size ≤ sizeLine + 1) :
    Meets (Builtin.«list.extend» ⟨[.ref l, .ref b], []⟩) (fun _ R s => s.heap.get? l = some { cls := .type "list", dict := none, data := .seq items n, slots := #[] } ∧ s.heap.get? b = some { cls := .type "tuple", dict := dd, data := .seq items2 n2, slots := sl } ∧ R (.ok (.ret Value.none)) { s with heap := s.heap.update l (Obj.mapSeq fun x => x ++ items2), toks := s.toks }) :=
  .of_wp fun prog w A R s h => by
    obtain ⟨hp, g, d, tk, os⟩ := s; obtain ⟨hl, hb, h⟩ := h; have f1 := AutoSeq1.idx_int; have f2 := AutoSeq1.sub_tuple_tuple; have f3 := AutoSeq1.sub_list_list; have f4 := AutoSeq1.sub_tuple_list; have f5 := AutoSeq1.sub_list_tuple;
    have hz' : (items ++ items2).size ≤ sizeLine + 1 := by rw [Array.size_append]; exact hs2
    wp_walk using (wpAny_updateSeq hl rfl (hz := hs1) (_hz' := hz')), wpAny_loadPart' hl, wpAny_loadPart' hb; exact ⟨_, rfl, h⟩
def rExtT (K : PySem.W.Frag) : V → List V → Hp → VK → Prop := fun x vs H Q => ∃ (l b : Addr) (xs zs : List V), x = .ref l ∧ vs = [.ref b] ∧ H l = some (.lst xs) ∧ SqT K H b zs ∧ xs.length + zs.length ≤ sizeLine ∧ Q .non (upd H l (.lst (xs ++ zs)))
theorem mt_extT {X : Cx} : MtM X "list.extend" (rExtT X.K) := by
  intro pins s σ H x vs v us Q I rx rv h
  obtain ⟨l, b, xs, zs, rfl, rfl, hH, hB, hz, q⟩ := h
  cases rx
  obtain ⟨u, rfl, ru⟩ := rv.one
  cases ru
  obtain ⟨z, its, n, r, hl, e⟩ := I.lstM hH
  obtain ⟨its2, r2, ⟨o2, e2, c2, n2, d2⟩, hz2⟩ := I.tuple hB
  obtain ⟨oc, dd, od, sl⟩ := o2
  dsimp only at c2 d2
  subst c2 d2
  have l1 := r.length
  have l2 := r2.length
  have hsz : its.toArray.size + its2.toArray.size ≤ sizeLine := by rw [List.size_toArray, List.size_toArray]; omega
  have hlong : ¬ (!its.toArray.isEmpty && Builtin.List.listTooLong (its.toArray.size + its2.toArray.size)) = true := by
    rw [notLongL' hsz, Bool.and_false]
    exact Bool.false_ne_true
  refine call_meets F.slot_list_extend ⟨_, e, rfl⟩ F.entry_list_extend (F.args_list_extend_2 _ _)
    (list_extend_tupG l its.toArray n b its2.toArray n2 dd sl hlong (by rw [List.size_toArray]; omega) (by omega)) ⟨e, e2, ?_⟩
  refine ⟨.non, _, I.lset (its' := its ++ its2) hH e (by simp) (r.append r2) ?_, rfl, q⟩
  rw [List.length_append]
  omega
end EX2
set_option Elab.async false
set_option linter.all false
set_option maxRecDepth 100000
set_option maxHeartbeats 0
namespace K07
open PySem PySem.Spec PyProof.Rows L2 EX2
def vI : PyData → V
  | .int i => .int i
  | _ => .non
/-- a list of ints, told by data -/
def spInts (g : PyData → List PyData) : Sp := fun vs H Q _ => ∃ (x : V) (d : PyData), vs = [x] ∧ Dq H x d ∧ okD d = true ∧ insD d = true ∧ ∀ L H', Evl.Ex H H' → H L = none → H' L = some (.lst ((g d).map vI)) → Q (.ref L) H'
/-- an instruction's form -/
theorem ins_form {d : PyData} (h : insD d = true) : ∃ z ds fm, d = .tuple (.str z :: ds) ∧ K07.forms.lookup z = some fm ∧ ds.length = fm.length ∧ ∀ i, i < fm.length → fitsC (fm.cps.toList.getD i 0) (ds.getD i .none) = true := by
  cases d with
  | tuple l =>
    cases l with
    | nil => cases h
    | cons a ds =>
      cases a with
      | str z =>
        have h1 : insT z ds = true := h
        unfold insT at h1
        cases hl : K07.forms.lookup z with
        | none => rw [hl] at h1; cases h1
        | some fm =>
          rw [hl] at h1
          simp only [Bool.and_eq_true, decide_eq_true_eq, List.all_eq_true] at h1
          exact ⟨z, ds, fm, rfl, hl, h1.1.1, fun i hi => h1.1.2 i (List.mem_range.mpr hi)⟩
      | _ => cases h
  | _ => cases h
def drS (fm : Str) (ds : List PyData) (i : Nat) : List PyData := if fm.cps.toList.getD i 0 = 114 then [ds.getD i .none] else if fm.cps.toList.getD i 0 = 120 then itemsD (ds.getD i .none) else []
theorem drawT_succ (fm : Str) (ds : List PyData) (j : Nat) : (List.range (j + 1)).flatMap (drS fm ds) = (List.range j).flatMap (drS fm ds) ++ drS fm ds j := by
  rw [List.range_succ, List.flatMap_append]
  simp
theorem ints_of {H : Hp} {xs : List V} {ds : List PyData} (h : DqAll H xs ds) (hi : ∀ d ∈ ds, ∃ i, d = .int i) : xs = ds.map vI := by
  induction xs generalizing ds with
  | nil => cases h; rfl
  | cons x xs ih =>
    cases h with
    | @cons _ _ d ds h t =>
      obtain ⟨i, rfl⟩ := hi d List.mem_cons_self
      cases h
      rw [ih t fun e he => hi e (List.mem_cons_of_mem _ he)]
      rfl
theorem inR_int' {lo hi : Int} {d : PyData} (h : inR lo hi d = true) : ∃ i, d = .int i := by
  cases d with
  | int i => exact ⟨i, rfl⟩
  | _ => cases h
section
variable {P : Program} {w : World} {K : PySem.W.Frag} {mg : Str → Option Value} {base : Heap} {f : Addr} {fd : FuncData}
abbrev ndrawers : List Str := ["instruction", "found", "sign", "item"]
theorem scdrawers : FnScope ndrawers ["instruction"] (defScope sdrawers) := ⟨rfl, rfl, rfl, by decide +kernel, rfl, by decide +kernel, by decide +kernel⟩
theorem spInts_len {g : PyData → List PyData} {p : Str} : ∀ vs H Q E, spInts g vs H Q E → vs.length = [p].length := by
  rintro vs H Q E ⟨x, d, rfl, _⟩
  rfl
theorem ok_drawers (F : FnP K "drawers_in" sdrawers f fd) (D : Defs w K mg) : FnOk P w K mg base CX0 1 f fd ["instruction"] (spInts drawD) := by
  have T := D.t
  obtain ⟨es, n, kd⟩ := D.kd
  refine F.ok scdrawers spInts_len (fun cdv A outer s H vs Q E hr h => ?_)
  obtain ⟨x, d, rfl, hd, hk, hi, hQ⟩ := h
  refine ⟨_, PSs.nox (pss_cons (ps_set (i := 1) scdrawers.nd rfl (Or.inl rfl) (pe_lst pa_nil))
      (pss_cons (ps_for PassesOwn.never rfl (ZS.pi_zipS rfl T.zip (pa_cons (EX2.pe_kd kd (pe_glob rfl D.forms (v := .ref (He.ga K "FORMS")) rfl) (pe_ix ix_tup (pv 0) pe_int (fun _ _ => rfl)) (fun _ _ => rfl)) (pa_cons (pe_slice sl_tup (pv 0) (po_some pe_int) po_none) pa_nil))) (pg_tup rfl (pgs_cons (pg_name (i := 2) scdrawers.nd rfl (Or.inl rfl)) (pgs_cons (pg_name (i := 3) scdrawers.nd rfl (Or.inl rfl)) pgs_nil)))
        (pss_cons (ps_if (pt_cmpR op_eq (pv 2) pe_str (nomark _))
          (pss_one (ps_expr (pe_bm PySem.F.plainAttrs_list PySem.F.slot_list_append PySem.F.type_list_append mt_append (pv 1) (pa_cons (pv 3) pa_nil))))
          pss_nil)
        (pss_one (ps_if (pt_cmpR op_eq (pv 2) pe_str (nomark _))
          (pss_one (ps_expr (pe_bm PySem.F.plainAttrs_list PySem.F.slot_list_extend PySem.F.type_list_extend mt_extT (pv 1) (pa_cons (pv 3) pa_nil))))
          pss_nil))))
      (pss_one (ps_ret (pv 1))))), ?_⟩
  obtain ⟨z, ds, fm, rfl, hl, hlen, hfit⟩ := ins_form hi
  obtain ⟨hf1, hf2, hf3⟩ := forms_ok _ (lookup_mem hl)
  dsimp only at hf1 hf2 hf3
  obtain ⟨a, xs0, rfl, ha, hall0⟩ := hd.tupI
  cases hall0 with
  | @cons x0 xs _ _ h0 hall =>
  cases h0
  have hl1 : xs.length = ds.length := EX2.DqAll.length hall
  have hgd : drawD (.tuple (.str z :: ds)) = (List.range fm.length).flatMap (drS fm ds) := by
    show (match K07.forms.lookup z with | some fm => drawT fm ds | none => []) = _
    rw [hl]
    rfl
  rw [hgd] at hQ
  rcases D.look z with ⟨fm', tk, hl', hns⟩ | ⟨hl', _⟩
  case inr => rw [hl] at hl'; cases hl'
  have e : fm' = fm := by rw [hl] at hl'; exact (Option.some.inj hl').symm
  subst e
  refine ⟨Nat.zero_le _, fun L hL => ?_⟩
  have eL := Evl.Ex.new (o := .lst []) hL
  refine ⟨_, rfl, _, _, 0, .str z, rfl, rfl, SqT.of (eL _ _ ha), at0, z, _, .str fm', rfl, rfl, hns, ⟨tk, rfl⟩, _, rfl, _, rfl, ?_⟩
  refine ⟨_, _, rfl, SqT.of (eL _ _ ha), by rw [(cut1 _ _).2]; omega, fun p1 hp1 => ?_⟩
  rw [(cut1 _ _).1]
  have hp1s : (upd (upd H L (.lst [])) p1 (.tup xs)) p1 = some (.tup xs) := upd_same
  have e1 := Evl.Ex.new (o := .tup xs) hp1
  have hL1 := e1 _ _ (upd_same (H := H) (a := L) (o := .lst []))
  have np : p1 ≠ L := ne_of hp1s hL1 (fun z => nomatch z)
  have hp1H : H p1 = none := by rw [upd_ne np] at hp1; exact hp1
  refine ⟨fm', p1, xs, rfl, hf2, SqT.of hp1s, ?_⟩
  have eH := eL.trans e1
  generalize (upd (upd H L (.lst [])) p1 (.tup xs)) = H1 at hp1s hL1 eH
  refine for_it (ZS.walk_zipS (z := fm') (ys := xs) (n := fm'.length) ?_) (fun j σ H2 => Evl.Ex H H2 ∧ H2 p1 = some (.tup xs) ∧ H2 L = some (.lst (((List.range j).flatMap (drS fm' ds)).map vI)) ∧ ((List.range j).flatMap (drS fm' ds)).length ≤ 4 * j ∧ ∃ v2 v3, σ = [some (.ref a), some (.ref L), v2, v3])
    ⟨eH, hp1s, hL1, by simp, none, none, rfl⟩ (fun j σ H2 _ h => SqT.of h.2.1) ?_ ?_
  · show fm'.cps.size = _
    rw [hl1, hlen]
    exact (Nat.min_self _).symm
  · rintro j x σ H2 H3 hj ⟨e2, hp2, hL2, hsz, v2, v3, rfl⟩ ⟨T0, x1, y1, rfl, hT, rfl, hx1, hy1⟩
    obtain ⟨c, hc, rfl⟩ : ∃ c, fm'.cps[j]? = some c ∧ x1 = .str ⟨#[c]⟩ := by
      have hx1 : (fm'.cps[j]?.map fun c => V.str ⟨#[c]⟩) = some x1 := hx1
      cases hz : fm'.cps[j]? with
      | none => rw [hz] at hx1; cases hx1
      | some c => rw [hz] at hx1; exact ⟨c, rfl, (Option.some.inj hx1).symm⟩
    obtain ⟨dj, hdj, hxj⟩ := hall.get hy1
    have eg1 : fm'.cps.toList.getD j 0 = c := by rw [List.getD_eq_getElem?_getD, Array.getElem?_toList, hc]; rfl
    have eg2 : ds.getD j .none = dj := by rw [List.getD_eq_getElem?_getD, hdj]; rfl
    have hfj := hfit j hj
    rw [eg1, eg2] at hfj
    have eT := Evl.Ex.new (o := .tup [.str ⟨#[c]⟩, y1]) hT
    have hL3 := eT _ _ hL2
    have hp3 := eT _ _ hp2
    have e3 := e2.trans eT
    have hxj3 := hxj.ext e3
    have hdr : drS fm' ds j = if c = 114 then [dj] else if c = 120 then itemsD dj else [] := by unfold drS; rw [eg1, eg2]
    refine ⟨T0, _, rfl, SqT.of upd_same, rfl, _, _, rfl, _, _, rfl, rfl, ?_⟩
    generalize (upd H2 T0 (.tup [.str ⟨#[c]⟩, y1])) = H4 at hL3 hp3 e3 hxj3
    have npT : ∀ {us : List V}, p1 ≠ L := np
    refine ⟨_, rfl, rfl, _, rfl, ?_⟩
    rw [sg_eq (k := 114) (by decide +kernel)]
    have hszL : (((List.range j).flatMap (drS fm' ds)).map vI).length ≤ 28 := by
      rw [List.length_map]
      have : j < fm'.length := hj
      omega
    by_cases k1 : c = 114
    · rw [decide_eq_true k1]
      rw [if_pos k1] at hdr
      subst k1
      obtain ⟨i, rfl⟩ := inR_int' (show inR 0 9 dj = true from hfj)
      cases hxj3
      refine iteT ⟨_, rfl, .inl ⟨rfl, _, SqL.of hL3⟩, _, rfl, L, _, _, rfl, rfl, hL3, Nat.lt_of_le_of_lt hszL (by rw [sizeLine_eq]; decide), ?_⟩
      refine ⟨_, rfl, rfl, _, rfl, ?_⟩
      rw [sg_eq (k := 120) (by decide +kernel), decide_eq_false (by decide)]
      refine iteF ⟨e3.mut hL, by rw [upd_ne np]; exact hp3, ?_, ?_, _, _, rfl⟩
      · rw [upd_same, drawT_succ, List.map_append, hdr]
        rfl
      · rw [drawT_succ, List.length_append, hdr]
        show _ + 1 ≤ _
        omega
    · rw [decide_eq_false k1]
      rw [if_neg k1] at hdr
      refine iteF ⟨_, rfl, rfl, _, rfl, ?_⟩
      rw [sg_eq (k := 120) (by decide +kernel)]
      by_cases k2 : c = 120
      · rw [decide_eq_true k2]
        rw [if_pos k2] at hdr
        subst k2
        obtain ⟨l, rfl⟩ := fits_tup (.inl rfl) hfj
        obtain ⟨b, zs, rfl, hb, hzs⟩ := hxj3.tupI
        have hfl : (decide (l.length ≤ 4) && l.all (elC 120)) = true := hfj
        rw [Bool.and_eq_true, decide_eq_true_eq, List.all_eq_true] at hfl
        have hzl := DqAll.length hzs
        have hzi := ints_of hzs fun d hd => inR_int' (lo := 0) (hi := 9) (hfl.2 d hd)
        refine iteT ⟨_, rfl, .inl ⟨rfl, _, SqL.of hL3⟩, _, rfl, L, b, _, _, rfl, rfl, hL3, SqT.of hb, le_line (by omega), ?_⟩
        refine ⟨e3.mut hL, by rw [upd_ne np]; exact hp3, ?_, ?_, _, _, rfl⟩
        · rw [upd_same, drawT_succ, List.map_append, hdr, hzi]
          rfl
        · rw [drawT_succ, List.length_append, hdr]
          show _ + l.length ≤ _
          omega
      · rw [decide_eq_false k2]
        rw [if_neg k2] at hdr
        refine iteF ⟨e3, hp3, ?_, ?_, _, _, rfl⟩
        · rw [hL3, drawT_succ, hdr, List.append_nil]
        · rw [drawT_succ, hdr, List.append_nil]
          omega
  · rintro σ H2 ⟨e2, _, hL2, _, v2, v3, rfl⟩
    exact ⟨_, rfl, hQ L H2 e2 hL hL2⟩
theorem filt_flat {ds : List PyData} {fm : Str} (v : Nat → V) (hv : ∀ i, i < fm.length → fm.cps.toList.getD i 0 = 106 → v i = vI (ds.getD i .none)) : (((List.range fm.length).filter fun i => decide (fm.cps.toList.getD i 0 = 106)).map v) = (tgtT fm ds).map vI := by
  unfold tgtT
  have : ∀ n, n ≤ fm.length → (((List.range n).filter fun i => decide (fm.cps.toList.getD i 0 = 106)).map v) = ((List.range n).flatMap fun i => if fm.cps.toList.getD i 0 = 106 then [ds.getD i .none] else []).map vI := by
    intro n
    induction n with
    | zero => intro _; rfl
    | succ n ih =>
      intro hn
      rw [List.range_succ, List.filter_append, List.map_append, ih (by omega), List.flatMap_append, List.map_append]
      congr 1
      by_cases h : fm.cps.toList.getD n 0 = 106
      · simp only [List.filter_cons, List.filter_nil, decide_eq_true h, if_true, List.map_cons, List.map_nil, List.flatMap_cons, List.flatMap_nil, if_pos h, List.append_nil]
        rw [hv n (by omega) h]
      · simp only [List.filter_cons, List.filter_nil, decide_eq_false h, List.map_nil, List.flatMap_cons, List.flatMap_nil, if_neg h, List.append_nil, Bool.false_eq_true, if_false]
  exact this _ (Nat.le_refl _)
abbrev ntargets : List Str := ["instruction", "form", "sign", "item"]
theorem sctargets : FnScope ntargets ["instruction"] (defScope stargets) := ⟨rfl, rfl, rfl, by decide +kernel, rfl, by decide +kernel, by decide +kernel⟩
theorem ok_targets (F : FnP K "targets_in" stargets f fd) (D : Defs w K mg) : FnOk P w K mg base CX0 1 f fd ["instruction"] (spInts tgtD) := by
  have T := D.t
  obtain ⟨es, n, kd⟩ := D.kd
  refine F.ok sctargets spInts_len (fun cdv A outer s H vs Q E hr h => ?_)
  obtain ⟨x, d, rfl, hd, hk, hi, hQ⟩ := h
  refine ⟨_, PSs.nox (pss_cons (ps_set (i := 1) sctargets.nd rfl (Or.inl rfl) (EX2.pe_kd kd (pe_glob rfl D.forms (v := .ref (He.ga K "FORMS")) rfl) (pe_ix ix_tup (pv 0) pe_int (fun _ _ => rfl)) (fun _ _ => rfl)))
      (pss_one (ps_ret (pe_lc (own := [("sign", 2), ("item", 3)]) (g := gTup K 2 (gCons (gName 2) (gCons (gName 3) gNil))) rfl sctargets.nd (ZS.pi_zipS rfl T.zip (pa_cons (pv 1) (pa_cons (pe_slice sl_tup (pv 0) (po_some pe_int) po_none) pa_nil))) (blkOk_by (N := ntargets) (sc := defScope stargets) (by decide +kernel)) (fun _ _ _ _ _ => (pg_tup rfl (pgs_cons (pg_name (i := 2) sctargets.nd rfl (Or.inl rfl)) (pgs_cons (pg_name (i := 3) sctargets.nd rfl (Or.inl rfl)) pgs_nil)))) (fun _ _ _ _ _ => (pts_one (pt_cmpR op_eq (pv 2) pe_str (nomark _)))) (fun _ _ _ _ _ => (pv 3)))))), ?_⟩
  obtain ⟨z, ds, fm, rfl, hl, hlen, hfit⟩ := ins_form hi
  obtain ⟨hf1, hf2, hf3⟩ := forms_ok _ (lookup_mem hl)
  dsimp only at hf1 hf2 hf3
  obtain ⟨a, xs0, rfl, ha, hall0⟩ := hd.tupI
  cases hall0 with
  | @cons x0 xs _ _ h0 hall =>
  cases h0
  have hl1 : xs.length = ds.length := EX2.DqAll.length hall
  have hgd : tgtD (.tuple (.str z :: ds)) = tgtT fm ds := by
    show (match K07.forms.lookup z with | some fm => tgtT fm ds | none => []) = _
    rw [hl]
  rw [hgd] at hQ
  rcases D.look z with ⟨fm', tk, hl', hns⟩ | ⟨hl', _⟩
  case inr => rw [hl] at hl'; cases hl'
  have e : fm' = fm := by rw [hl] at hl'; exact (Option.some.inj hl').symm
  subst e
  refine ⟨_, rfl, _, _, 0, .str z, rfl, rfl, SqT.of ha, at0, z, _, .str fm', rfl, rfl, hns, ⟨tk, rfl⟩, ?_⟩
  refine ⟨_, rfl, _, rfl, _, rfl, _, _, rfl, SqT.of ha, by rw [(cut1 _ _).2]; omega, fun p1 hp1 => ?_⟩
  rw [(cut1 _ _).1]
  have e1 := Evl.Ex.new (o := .tup xs) hp1
  have hp1s : (upd H p1 (.tup xs)) p1 = some (.tup xs) := upd_same
  refine ⟨fm', p1, xs, rfl, hf2, SqT.of upd_same, fun D0 hD => ?_⟩
  refine EX2.lc_filt (ZS.walk_zipS (z := fm') (ys := xs) (n := fm'.length) ?_) hD (fun H' e => SqT.of (e _ _ hp1s)) (fun i => decide (fm'.cps.toList.getD i 0 = 106)) (fun i => xs.getD i .non) (Nat.le_trans hf1 (by decide)) ?_ ?_ ?_
  · show fm'.cps.size = _
    rw [hl1, hlen]
    exact (Nat.min_self _).symm
  · rintro j H3 x H4 _ _ ⟨T, x1, y1, rfl, hT, rfl, _⟩
    exact Evl.Ex.new hT
  · rintro j x H3 H4 hj e3 e4 ⟨T0, x1, y1, rfl, hT, rfl, hx1, hy1⟩ Qa Qb hQa hQb
    obtain ⟨c, hc, rfl⟩ : ∃ c, fm'.cps[j]? = some c ∧ x1 = .str ⟨#[c]⟩ := by
      have hx1 : (fm'.cps[j]?.map fun c => V.str ⟨#[c]⟩) = some x1 := hx1
      cases hz : fm'.cps[j]? with
      | none => rw [hz] at hx1; cases hx1
      | some c => rw [hz] at hx1; exact ⟨c, rfl, (Option.some.inj hx1).symm⟩
    have eg1 : fm'.cps.toList.getD j 0 = c := by rw [List.getD_eq_getElem?_getD, Array.getElem?_toList, hc]; rfl
    have eg2 : xs.getD j .non = y1 := by rw [List.getD_eq_getElem?_getD, show xs[j]? = some y1 from hy1]; rfl
    rw [eg1] at hQa hQb
    rw [eg2] at hQa
    refine ⟨T0, _, rfl, SqT.of upd_same, rfl, _, _, rfl, _, _, rfl, rfl, ?_⟩
    refine ⟨rfl, _, rfl, rfl, _, rfl, ?_⟩
    rw [sg_eq (k := 106) (by decide +kernel)]
    cases hb : decide (c = 106) with
    | true => exact iteT ⟨_, rfl, hQa _ (Evl.Ex.refl _) hb⟩
    | false => exact iteF (hQb _ (Evl.Ex.refl _) hb)
  · intro H3 e3 hD3
    have hDH : H D0 = none := by
      rw [upd_ne (by rintro rfl; rw [upd_same] at hD; cases hD)] at hD
      exact hD
    refine hQ D0 H3 (e1.trans e3) hDH ?_
    rw [hD3, filt_flat (ds := ds)]
    intro i hi h106
    have hds : i < ds.length := by omega
    obtain ⟨x, hx, hxd⟩ := hall.getD (List.getElem?_eq_getElem hds)
    have hfi := hfit i hi
    rw [h106] at hfi
    have egd : ds.getD i .none = ds[i] := by rw [List.getD_eq_getElem?_getD, List.getElem?_eq_getElem hds]; rfl
    rw [egd] at hfi ⊢
    obtain ⟨k, hk2⟩ := inR_int' (show inR 0 39 ds[i] = true from hfi)
    rw [hk2] at hxd ⊢
    cases hxd
    rw [List.getD_eq_getElem?_getD, hx]
    rfl
end
end K07
set_option Elab.async false
set_option linter.all false
set_option maxRecDepth 100000
set_option maxHeartbeats 0
namespace K07
open PySem PySem.Spec PyProof.Rows L2 EX2
def itemsOf : PyData → List PyData
  | .list ds => ds
  | .tuple ds => ds
  | _ => []
def codeOk (m : Int) (n : Nat) (e : PyData) : Bool := (drawD e).all (ltD m) && (tgtD e).all (ltD n)
def codeD (m : Int) (d : PyData) : Bool := seqD 40 d && decide ((itemsOf d).length ≠ 0) && (itemsOf d).all insD && (itemsOf d).all (codeOk m (itemsOf d).length)
def spCode : Sp := fun vs H Q _ => ∃ (x : V) (d : PyData) (m : Int), vs = [x, .int m] ∧ Dq H x d ∧ okD d = true ∧ ∀ H', Evl.Ex H H' → Q (.bl (codeD m d)) H'
theorem drS_ok {fm : Str} {ds : List PyData} {i : Nat} (h : fitsC (fm.cps.toList.getD i 0) (ds.getD i .none) = true) : (∀ e ∈ drS fm ds i, ∃ k, e = .int k) ∧ (drS fm ds i).length ≤ 4 := by
  unfold drS
  by_cases k1 : fm.cps.toList.getD i 0 = 114
  · rw [if_pos k1]
    rw [k1] at h
    obtain ⟨k, hk⟩ := inR_int' (show inR 0 9 _ = true from h)
    exact ⟨fun e he => by rw [List.mem_singleton] at he; exact ⟨k, he.trans hk⟩, by simp⟩
  · rw [if_neg k1]
    by_cases k2 : fm.cps.toList.getD i 0 = 120
    · rw [if_pos k2]
      rw [k2] at h
      obtain ⟨l, hl⟩ := fits_tup (.inl rfl) h
      rw [hl] at h ⊢
      have hfl : (decide (l.length ≤ 4) && l.all (elC 120)) = true := h
      rw [Bool.and_eq_true, decide_eq_true_eq, List.all_eq_true] at hfl
      exact ⟨fun e he => inR_int' (lo := 0) (hi := 9) (hfl.2 e he), hfl.1⟩
    · rw [if_neg k2]
      exact ⟨fun e he => (nomatch he), by simp⟩
theorem flat_len {f : Nat → List PyData} {n c : Nat} (h : ∀ i, i < n → (f i).length ≤ c) : ((List.range n).flatMap f).length ≤ c * n := by
  induction n with
  | zero => simp
  | succ n ih =>
    rw [List.range_succ, List.flatMap_append, List.length_append]
    have h1 := ih fun i hi => h i (by omega)
    have h2 := h n (by omega)
    simp only [List.flatMap_cons, List.flatMap_nil, List.append_nil]
    rw [Nat.mul_succ]
    omega
section
variable {d : PyData}
theorem draw_eq {z fm : Str} {ds : List PyData} (hl : K07.forms.lookup z = some fm) : drawD (.tuple (.str z :: ds)) = (List.range fm.length).flatMap (drS fm ds) := by
  show (match K07.forms.lookup z with | some fm => drawT fm ds | none => []) = _
  rw [hl]
  rfl
theorem draw_int (h : insD d = true) : ∀ e ∈ drawD d, ∃ k, e = .int k := by
  obtain ⟨z, ds, fm, rfl, hl, hlen, hfit⟩ := ins_form h
  rw [draw_eq hl]
  intro e he
  obtain ⟨i, hi, he⟩ := List.mem_flatMap.mp he
  exact (drS_ok (hfit i (List.mem_range.mp hi))).1 e he
theorem draw_len (h : insD d = true) : (drawD d).length ≤ 28 := by
  obtain ⟨z, ds, fm, rfl, hl, hlen, hfit⟩ := ins_form h
  rw [draw_eq hl]
  have h1 := (forms_ok _ (lookup_mem hl)).1
  have h2 := flat_len (n := fm.length) (c := 4) (fun i hi => (drS_ok (hfit i hi)).2)
  dsimp only at h1
  omega
def tgS (fm : Str) (ds : List PyData) (i : Nat) : List PyData := if fm.cps.toList.getD i 0 = 106 then [ds.getD i .none] else []
theorem tgt_eq {z fm : Str} {ds : List PyData} (hl : K07.forms.lookup z = some fm) : tgtD (.tuple (.str z :: ds)) = (List.range fm.length).flatMap (tgS fm ds) := by
  show (match K07.forms.lookup z with | some fm => tgtT fm ds | none => []) = _
  rw [hl]
  rfl
theorem tgS_ok {fm : Str} {ds : List PyData} {i : Nat} (h : fitsC (fm.cps.toList.getD i 0) (ds.getD i .none) = true) : (∀ e ∈ tgS fm ds i, ∃ k, e = .int k) ∧ (tgS fm ds i).length ≤ 1 := by
  unfold tgS
  by_cases k1 : fm.cps.toList.getD i 0 = 106
  · rw [if_pos k1]
    rw [k1] at h
    obtain ⟨k, hk⟩ := inR_int' (show inR 0 39 _ = true from h)
    exact ⟨fun e he => by rw [List.mem_singleton] at he; exact ⟨k, he.trans hk⟩, by simp⟩
  · rw [if_neg k1]
    exact ⟨fun e he => (nomatch he), by simp⟩
theorem tgt_int (h : insD d = true) : ∀ e ∈ tgtD d, ∃ k, e = .int k := by
  obtain ⟨z, ds, fm, rfl, hl, hlen, hfit⟩ := ins_form h
  rw [tgt_eq hl]
  intro e he
  obtain ⟨i, hi, he⟩ := List.mem_flatMap.mp he
  exact (tgS_ok (hfit i (List.mem_range.mp hi))).1 e he
theorem tgt_len (h : insD d = true) : (tgtD d).length ≤ 28 := by
  obtain ⟨z, ds, fm, rfl, hl, hlen, hfit⟩ := ins_form h
  rw [tgt_eq hl]
  have h1 := (forms_ok _ (lookup_mem hl)).1
  have h2 := flat_len (n := fm.length) (c := 1) (fun i hi => (tgS_ok (hfit i hi)).2)
  dsimp only at h1
  omega
end
section
variable {P : Program} {w : World} {K : PySem.W.Frag} {mg : Str → Option Value} {base : Heap} {f : Addr} {fd : FuncData}
abbrev ncode : List Str := ["value", "size", "item", "drawer", "target"]
theorem sccode : FnScope ncode ["value", "size"] (defScope scode) := ⟨rfl, rfl, rfl, by decide +kernel, rfl, by decide +kernel, by decide +kernel⟩
theorem ok_code (F : FnP K "is_code" scode f fd) (D : Defs w K mg) : FnOk P w K mg base CX0 5 f fd ["value", "size"] spCode := by
  have T := D.t
  obtain ⟨tC, gC⟩ := D.code40
  obtain ⟨fI, fdI, gI, FI⟩ := D.is_instruction
  have GI : FnOk P w K mg base CX0 4 fI fdI ["value"] (spD insD) := ok_ins FI D
  have bI : Binds K fdI ["value"] [] := FI.bindsN fun _ _ _ _ _ _ us hl => match us, hl with | [_], _ => rfl
  obtain ⟨fS, fdS, gS, FS⟩ := D.is_sequence
  have GS : FnOk P w K mg base CX0 1 fS fdS ["obj", "most"] spSeq := ok_seq FS D
  have bS : Binds K fdS ["obj", "most"] [] := FS.bindsN fun _ _ _ _ _ _ us hl => match us, hl with | [_, _], _ => rfl
  obtain ⟨fR, fdR, gR, FR⟩ := D.drawers_in
  have GR : FnOk P w K mg base CX0 1 fR fdR ["instruction"] (spInts drawD) := ok_drawers FR D
  have bR : Binds K fdR ["instruction"] [] := FR.bindsN fun _ _ _ _ _ _ us hl => match us, hl with | [_], _ => rfl
  obtain ⟨fT, fdT, gT, FT⟩ := D.targets_in
  have GT : FnOk P w K mg base CX0 1 fT fdT ["instruction"] (spInts tgtD) := ok_targets FT D
  have bT : Binds K fdT ["instruction"] [] := FT.bindsN fun _ _ _ _ _ _ us hl => match us, hl with | [_], _ => rfl
  refine F.ok sccode (fun vs H Q E h => ?_) (fun cdv A outer s H vs Q E hr h => ?_)
  · obtain ⟨x, d, m, rfl, _⟩ := h
    rfl
  · obtain ⟨x, d, m, rfl, hd, hk, hQ⟩ := h
    refine ⟨_, PSs.nox (pss_cons (ps_if (PW.pt (pw_or (pt_not (pt_val (pe_call GS (hr.mono (by decide)) rfl gS FS.kp bS .nil pass0 (pa_cons (pv 0) (pa_cons (pe_glob rfl gC (v := .int 40) ⟨tC, rfl⟩) pa_nil))))) (pw_or (pt_cmpR op_eq (pe_callB call_len rfl T.len boot_len (pa_cons (pv 0) pa_nil)) pe_int (nomark _)) (pw_or1 (pt_not (pt_val (pe_callB (cr_all rfl) rfl T.all boot_all (pa_cons (pe_lc (own := [("item", 2)]) (g := gName 2) (tt := tYes) rfl sccode.nd (pi_seqq (pv 0)) (blkOk_by (N := ncode) (sc := defScope scode) (by decide +kernel)) (fun _ _ _ _ _ => (pg_name (i := 2) sccode.nd rfl (Or.inl rfl))) (fun _ _ _ _ _ => pts_nil) (fun _ _ _ _ _ => (pe_call GI (hr.mono (by decide)) rfl gI FI.kp bI .nil pass0 (pa_cons (pv 2) pa_nil)))) pa_nil))))))))
        (pss_one (ps_ret pe_bl))
        pss_nil)
      (pss_cons (ps_for PassesOwn.never rfl (pi_seqq (pv 0)) (pg_name (i := 2) sccode.nd rfl (Or.inl rfl))
        (pss_cons (ps_if (pt_val (pe_callB (cr_any rfl) rfl T.any boot_any (pa_cons (pe_lc (own := [("drawer", 3)]) (g := gName 3) (tt := tYes) rfl sccode.nd (pi_list (pe_call GR (hr.mono (by decide)) rfl gR FR.kp bR .nil pass0 (pa_cons (pv 2) pa_nil))) (blkOk_by (N := ncode) (sc := defScope scode) (by decide +kernel)) (fun _ _ _ _ _ => (pg_name (i := 3) sccode.nd rfl (Or.inl rfl))) (fun _ _ _ _ _ => pts_nil) (fun _ _ _ _ _ => (pe_cmpR op_ge (pv 3) (pv 1) (nomark _)))) pa_nil)))
          (pss_one (ps_ret pe_bl))
          pss_nil)
        (pss_one (ps_if (pt_val (pe_callB (cr_any rfl) rfl T.any boot_any (pa_cons (pe_lc (own := [("target", 4)]) (g := gName 4) (tt := tYes) rfl sccode.nd (pi_list (pe_call GT (hr.mono (by decide)) rfl gT FT.kp bT .nil pass0 (pa_cons (pv 2) pa_nil))) (blkOk_by (N := ncode) (sc := defScope scode) (by decide +kernel)) (fun _ _ _ _ _ => (pg_name (i := 4) sccode.nd rfl (Or.inl rfl))) (fun _ _ _ _ _ => pts_nil) (fun _ _ _ _ _ => (pe_cmpR op_ge (pv 4) (pe_callB (r := rLen K) call_len rfl T.len boot_len (pa_cons (pv 0) pa_nil)) (nomark _)))) pa_nil)))
          (pss_one (ps_ret pe_bl))
          pss_nil))))
      (pss_one (ps_ret pe_bl)))), ?_⟩
    refine ⟨_, rfl, x, d, 40, rfl, hd, fun H0 e0 => ⟨_, rfl, ?_⟩⟩
    cases hsq : seqD 40 d with
    | false =>
      have q := hQ H0 e0
      rw [show codeD m d = false from by unfold codeD; rw [hsq]; rfl] at q
      exact iteT q
    | true =>
    cases d with
    | list ds =>
      obtain ⟨a, xs, rfl, ha, hall⟩ := hd.lstI
      have hl : xs.length = ds.length := DqAll.length hall
      have hS : SqL K H a xs := SqL.of ha
      refine iteF ⟨_, rfl, _, _, rfl, .inl ⟨_, SqL.of (e0 _ _ ha), rfl⟩, rfl, _, rfl, ?_⟩
      have q1 : ∀ H', Evl.Ex H0 H' → Q (.bl (codeD m (.list ds))) H' := fun H' e => hQ H' (e0.trans e)
      have ec : codeD m (.list ds) = (decide (ds.length ≠ 0) && ds.all insD && ds.all (codeOk m ds.length)) := by
        show (seqD 40 (.list ds) && decide (ds.length ≠ 0) && ds.all insD && ds.all (codeOk m ds.length)) = _
        rw [hsq, Bool.true_and]
      rw [ec] at q1
      by_cases hz : ds.length = 0
      · rw [show decide (V.int ((xs.length : Nat) : Int) = V.int 0) = true from decide_eq_true (by rw [hl, hz]; rfl)]
        rw [show decide (ds.length ≠ 0) = false from decide_eq_false (by simp [hz]), Bool.false_and, Bool.false_and] at q1
        exact iteT (q1 _ (Evl.Ex.refl _))
      rw [show decide (V.int ((xs.length : Nat) : Int) = V.int 0) = false from decide_eq_false (fun z => by have := V.int.inj z; omega)]
      rw [show decide (ds.length ≠ 0) = true from decide_eq_true hz, Bool.true_and] at q1
      have hle : ds.length ≤ 40 := by
        have : decide ((ds.length : Int) ≤ 40) = true := hsq
        have := of_decide_eq_true this
        omega
      have hkd : ∀ e ∈ ds, okD e = true := okAll_mem hk
      have ha0 := e0 _ _ ha
      have hall0 := hall.ext e0
      refine iteF ⟨_, rfl, _, rfl, .inl ⟨⟨_, SqL.of ha0⟩, fun D1 hD1 => ?_⟩⟩
      refine EX2.lc_map (walk_list (xs := xs)) hD1 (fun H' e => SqL.of (e _ _ ha0)) (fun j => .bl (insD (ds.getD j .none))) (by omega) (fun j H3 x H4 _ _ y => by rw [y.1]; exact Evl.Ex.refl _) ?_ ?_
      · rintro j x H3 H4 hj e3 _ ⟨rfl, hx⟩ Qt hQt
        obtain ⟨dj, hdj, hxj⟩ := hall0.get hx
        have egd : ds.getD j .none = dj := by rw [List.getD_eq_getElem?_getD, hdj]; rfl
        rw [egd] at hQt
        exact ⟨rfl, _, rfl, x, dj, rfl, hxj.ext e3, hkd dj (List.mem_of_getElem? hdj), hQt⟩
      intro H1 e1 hD1s
      refine ⟨D1, (List.range xs.length).map fun j => insD (ds.getD j .none), rfl, SqL.of ?_, ?_⟩
      · rw [hD1s, List.map_map]
        rfl
      rw [hl, EX2.map_range_get ds insD _ (fun i e he => by rw [List.getD_eq_getElem?_getD, he]; rfl), List.all_map, show (id ∘ insD) = insD from rfl]
      have q2 := fun H' e => q1 H' (e1.trans e)
      cases hins : ds.all insD with
      | false =>
        rw [hins, Bool.false_and] at q2
        exact ⟨_, rfl, iteT (q2 _ (Evl.Ex.refl _))⟩
      | true =>
      rw [hins, Bool.true_and] at q2
      refine ⟨_, rfl, iteF ?_⟩
      have ha1 := e1 _ _ ha0
      have hall1 := hall0.ext e1
      have hin : ∀ e ∈ ds, insD e = true := List.all_eq_true.mp hins
      refine ⟨_, rfl, _, rfl, .inl ⟨⟨_, SqL.of ha1⟩, ?_⟩⟩
      refine for_it (walk_list (xs := xs)) (fun j σ H2 => Evl.Ex H1 H2 ∧ (∀ i e, i < j → ds[i]? = some e → codeOk m ds.length e = true) ∧ ∃ v2, σ = [some (.ref a), some (.int m), v2, none, none]) ⟨Evl.Ex.refl _, fun i e hi => absurd hi (Nat.not_lt_zero _), none, rfl⟩ (fun j σ H2 _ h => SqL.of (h.1 _ _ ha1)) ?_ ?_
      · rintro j x σ H2 H3 hj ⟨e2, hpre, v2, rfl⟩ ⟨rfl, hx⟩
        obtain ⟨dj, hdj, hxj⟩ := hall1.get hx
        have hkj := hkd dj (List.mem_of_getElem? hdj)
        have hij := hin dj (List.mem_of_getElem? hdj)
        have hbad : codeOk m ds.length dj = false → ds.all (codeOk m ds.length) = false := fun h => by
          rw [Bool.eq_false_iff]
          intro z
          have := List.all_eq_true.mp z dj (List.mem_of_getElem? hdj)
          rw [h] at this
          cases this
        refine ⟨_, rfl, x, dj, rfl, hxj.ext e2, hkj, hij, fun L H4 e4 hL hLs => ?_⟩
        refine ⟨L, rfl, ⟨_, SqL.of hLs⟩, fun D2 hD2 => ?_⟩
        refine EX2.lc_map (walk_list (xs := (drawD dj).map vI)) hD2 (fun H' e => SqL.of (e _ _ hLs)) (fun i => .bl (!ltD m ((drawD dj).getD i .none))) (by rw [List.length_map]; exact Nat.le_trans (draw_len hij) (by decide)) (fun i H3 x H4 _ _ y => by rw [y.1]; exact Evl.Ex.refl _) ?_ ?_
        · rintro i y H5 H6 hi e5 _ ⟨rfl, hy⟩ Qt hQt
          rw [List.getElem?_map] at hy
          obtain ⟨di, hdi, rfl⟩ : ∃ di, (drawD dj)[i]? = some di ∧ y = vI di := by
            cases hz : (drawD dj)[i]? with
            | none => rw [hz] at hy; cases hy
            | some di => rw [hz] at hy; exact ⟨di, rfl, (Option.some.inj hy).symm⟩
          obtain ⟨k, rfl⟩ := draw_int hij di (List.mem_of_getElem? hdi)
          have egd : (drawD dj).getD i .none = .int k := by rw [List.getD_eq_getElem?_getD, hdi]; rfl
          rw [egd] at hQt
          refine ⟨rfl, _, rfl, _, rfl, _, _, rfl, rfl, ?_⟩
          have : (decide (k ≥ m)) = !ltD m (.int k) := by show decide (k ≥ m) = !decide (k < m); rw [← decide_not]; exact decide_eq_decide.mpr (by omega)
          rw [← this] at hQt
          exact hQt _ (Evl.Ex.refl _)
        intro H5 e5 hD2s
        refine ⟨D2, (List.range ((drawD dj).map vI).length).map fun i => !ltD m ((drawD dj).getD i .none), rfl, SqL.of (by rw [hD2s, List.map_map]; rfl), ?_⟩
        rw [List.length_map, EX2.map_range_get (drawD dj) (fun e => !ltD m e) _ (fun i e he => by rw [List.getD_eq_getElem?_getD, he]; rfl)]
        have ea : ((drawD dj).map fun e => !ltD m e).any id = !(drawD dj).all (ltD m) := by rw [List.any_map, List.not_all_eq_any_not]; rfl
        rw [ea]
        have e05 := (e2.trans e4).trans e5
        cases hda : (drawD dj).all (ltD m) with
        | false =>
          have := hbad (by unfold codeOk; rw [hda, Bool.false_and])
          rw [this] at q2
          exact ⟨_, rfl, iteT (q2 _ e05)⟩
        | true =>
        refine ⟨_, rfl, iteF ?_⟩
        refine ⟨_, rfl, x, dj, rfl, hxj.ext e05, hkj, hij, fun L2 H6 e6 hL2 hL2s => ?_⟩
        have e06 := e05.trans e6
        refine ⟨L2, rfl, ⟨_, SqL.of hL2s⟩, fun D3 hD3 => ?_⟩
        refine EX2.lc_map (walk_list (xs := (tgtD dj).map vI)) hD3 (fun H' e => SqL.of (e _ _ hL2s)) (fun i => .bl (!ltD ds.length ((tgtD dj).getD i .none))) (by rw [List.length_map]; exact Nat.le_trans (tgt_len hij) (by decide)) (fun i H3 x H4 _ _ y => by rw [y.1]; exact Evl.Ex.refl _) ?_ ?_
        · rintro i y H7 H8 hi e7 _ ⟨rfl, hy⟩ Qt hQt
          rw [List.getElem?_map] at hy
          obtain ⟨di, hdi, rfl⟩ : ∃ di, (tgtD dj)[i]? = some di ∧ y = vI di := by
            cases hz : (tgtD dj)[i]? with
            | none => rw [hz] at hy; cases hy
            | some di => rw [hz] at hy; exact ⟨di, rfl, (Option.some.inj hy).symm⟩
          obtain ⟨k, rfl⟩ := tgt_int hij di (List.mem_of_getElem? hdi)
          have egd : (tgtD dj).getD i .none = .int k := by rw [List.getD_eq_getElem?_getD, hdi]; rfl
          rw [egd] at hQt
          refine ⟨rfl, _, rfl, _, rfl, _, _, rfl, .inl ⟨_, SqL.of ((e06.trans e7) _ _ ha1), rfl⟩, _, _, rfl, rfl, ?_⟩
          rw [hl]
          have : (decide (k ≥ (ds.length : Int))) = !ltD ds.length (.int k) := by show decide (k ≥ (ds.length : Int)) = !decide (k < (ds.length : Int)); rw [← decide_not]; exact decide_eq_decide.mpr (by omega)
          rw [← this] at hQt
          exact hQt _ (Evl.Ex.refl _)
        intro H7 e7 hD3s
        refine ⟨D3, (List.range ((tgtD dj).map vI).length).map fun i => !ltD ds.length ((tgtD dj).getD i .none), rfl, SqL.of (by rw [hD3s, List.map_map]; rfl), ?_⟩
        rw [List.length_map, EX2.map_range_get (tgtD dj) (fun e => !ltD ds.length e) _ (fun i e he => by rw [List.getD_eq_getElem?_getD, he]; rfl)]
        have ea : ((tgtD dj).map fun e => !ltD ds.length e).any id = !(tgtD dj).all (ltD ds.length) := by rw [List.any_map, List.not_all_eq_any_not]; rfl
        rw [ea]
        have e07 := e06.trans e7
        cases hta : (tgtD dj).all (ltD ds.length) with
        | false =>
          have := hbad (by unfold codeOk; rw [hta, Bool.and_false])
          rw [this] at q2
          exact ⟨_, rfl, iteT (q2 _ e07)⟩
        | true =>
        refine ⟨_, rfl, iteF ⟨e07, fun i e hi he => ?_, _, rfl⟩⟩
        by_cases hij2 : i = j
        · subst hij2
          rw [hdj] at he
          cases he
          unfold codeOk
          rw [hda, hta]
          rfl
        · exact hpre i e (by omega) he
      · rintro σ H2 ⟨e2, hpre, v2, rfl⟩
        have := q2 H2 e2
        rw [show ds.all (codeOk m ds.length) = true from List.all_eq_true.mpr fun e he => by
          obtain ⟨i, hi⟩ := List.mem_iff_getElem?.mp he
          exact hpre i e (by rw [hl]; exact (List.getElem?_eq_some_iff.mp hi).1) hi] at this
        exact this
    | tuple ds =>
      obtain ⟨a, xs, rfl, ha, hall⟩ := hd.tupI
      have hl : xs.length = ds.length := DqAll.length hall
      have hS : SqT K H a xs := SqT.of ha
      refine iteF ⟨_, rfl, _, _, rfl, .inr ⟨_, SqT.of (e0 _ _ ha), rfl⟩, rfl, _, rfl, ?_⟩
      have q1 : ∀ H', Evl.Ex H0 H' → Q (.bl (codeD m (.tuple ds))) H' := fun H' e => hQ H' (e0.trans e)
      have ec : codeD m (.tuple ds) = (decide (ds.length ≠ 0) && ds.all insD && ds.all (codeOk m ds.length)) := by
        show (seqD 40 (.tuple ds) && decide (ds.length ≠ 0) && ds.all insD && ds.all (codeOk m ds.length)) = _
        rw [hsq, Bool.true_and]
      rw [ec] at q1
      by_cases hz : ds.length = 0
      · rw [show decide (V.int ((xs.length : Nat) : Int) = V.int 0) = true from decide_eq_true (by rw [hl, hz]; rfl)]
        rw [show decide (ds.length ≠ 0) = false from decide_eq_false (by simp [hz]), Bool.false_and, Bool.false_and] at q1
        exact iteT (q1 _ (Evl.Ex.refl _))
      rw [show decide (V.int ((xs.length : Nat) : Int) = V.int 0) = false from decide_eq_false (fun z => by have := V.int.inj z; omega)]
      rw [show decide (ds.length ≠ 0) = true from decide_eq_true hz, Bool.true_and] at q1
      have hle : ds.length ≤ 40 := by
        have : decide ((ds.length : Int) ≤ 40) = true := hsq
        have := of_decide_eq_true this
        omega
      have hkd : ∀ e ∈ ds, okD e = true := okAll_mem hk
      have ha0 := e0 _ _ ha
      have hall0 := hall.ext e0
      refine iteF ⟨_, rfl, _, rfl, .inr ⟨⟨_, SqT.of ha0⟩, fun D1 hD1 => ?_⟩⟩
      refine EX2.lc_map (walk_tup (xs := xs)) hD1 (fun H' e => SqT.of (e _ _ ha0)) (fun j => .bl (insD (ds.getD j .none))) (by omega) (fun j H3 x H4 _ _ y => by rw [y.1]; exact Evl.Ex.refl _) ?_ ?_
      · rintro j x H3 H4 hj e3 _ ⟨rfl, hx⟩ Qt hQt
        obtain ⟨dj, hdj, hxj⟩ := hall0.get hx
        have egd : ds.getD j .none = dj := by rw [List.getD_eq_getElem?_getD, hdj]; rfl
        rw [egd] at hQt
        exact ⟨rfl, _, rfl, x, dj, rfl, hxj.ext e3, hkd dj (List.mem_of_getElem? hdj), hQt⟩
      intro H1 e1 hD1s
      refine ⟨D1, (List.range xs.length).map fun j => insD (ds.getD j .none), rfl, SqL.of ?_, ?_⟩
      · rw [hD1s, List.map_map]
        rfl
      rw [hl, EX2.map_range_get ds insD _ (fun i e he => by rw [List.getD_eq_getElem?_getD, he]; rfl), List.all_map, show (id ∘ insD) = insD from rfl]
      have q2 := fun H' e => q1 H' (e1.trans e)
      cases hins : ds.all insD with
      | false =>
        rw [hins, Bool.false_and] at q2
        exact ⟨_, rfl, iteT (q2 _ (Evl.Ex.refl _))⟩
      | true =>
      rw [hins, Bool.true_and] at q2
      refine ⟨_, rfl, iteF ?_⟩
      have ha1 := e1 _ _ ha0
      have hall1 := hall0.ext e1
      have hin : ∀ e ∈ ds, insD e = true := List.all_eq_true.mp hins
      refine ⟨_, rfl, _, rfl, .inr ⟨⟨_, SqT.of ha1⟩, ?_⟩⟩
      refine for_it (walk_tup (xs := xs)) (fun j σ H2 => Evl.Ex H1 H2 ∧ (∀ i e, i < j → ds[i]? = some e → codeOk m ds.length e = true) ∧ ∃ v2, σ = [some (.ref a), some (.int m), v2, none, none]) ⟨Evl.Ex.refl _, fun i e hi => absurd hi (Nat.not_lt_zero _), none, rfl⟩ (fun j σ H2 _ h => SqT.of (h.1 _ _ ha1)) ?_ ?_
      · rintro j x σ H2 H3 hj ⟨e2, hpre, v2, rfl⟩ ⟨rfl, hx⟩
        obtain ⟨dj, hdj, hxj⟩ := hall1.get hx
        have hkj := hkd dj (List.mem_of_getElem? hdj)
        have hij := hin dj (List.mem_of_getElem? hdj)
        have hbad : codeOk m ds.length dj = false → ds.all (codeOk m ds.length) = false := fun h => by
          rw [Bool.eq_false_iff]
          intro z
          have := List.all_eq_true.mp z dj (List.mem_of_getElem? hdj)
          rw [h] at this
          cases this
        refine ⟨_, rfl, x, dj, rfl, hxj.ext e2, hkj, hij, fun L H4 e4 hL hLs => ?_⟩
        refine ⟨L, rfl, ⟨_, SqL.of hLs⟩, fun D2 hD2 => ?_⟩
        refine EX2.lc_map (walk_list (xs := (drawD dj).map vI)) hD2 (fun H' e => SqL.of (e _ _ hLs)) (fun i => .bl (!ltD m ((drawD dj).getD i .none))) (by rw [List.length_map]; exact Nat.le_trans (draw_len hij) (by decide)) (fun i H3 x H4 _ _ y => by rw [y.1]; exact Evl.Ex.refl _) ?_ ?_
        · rintro i y H5 H6 hi e5 _ ⟨rfl, hy⟩ Qt hQt
          rw [List.getElem?_map] at hy
          obtain ⟨di, hdi, rfl⟩ : ∃ di, (drawD dj)[i]? = some di ∧ y = vI di := by
            cases hz : (drawD dj)[i]? with
            | none => rw [hz] at hy; cases hy
            | some di => rw [hz] at hy; exact ⟨di, rfl, (Option.some.inj hy).symm⟩
          obtain ⟨k, rfl⟩ := draw_int hij di (List.mem_of_getElem? hdi)
          have egd : (drawD dj).getD i .none = .int k := by rw [List.getD_eq_getElem?_getD, hdi]; rfl
          rw [egd] at hQt
          refine ⟨rfl, _, rfl, _, rfl, _, _, rfl, rfl, ?_⟩
          have : (decide (k ≥ m)) = !ltD m (.int k) := by show decide (k ≥ m) = !decide (k < m); rw [← decide_not]; exact decide_eq_decide.mpr (by omega)
          rw [← this] at hQt
          exact hQt _ (Evl.Ex.refl _)
        intro H5 e5 hD2s
        refine ⟨D2, (List.range ((drawD dj).map vI).length).map fun i => !ltD m ((drawD dj).getD i .none), rfl, SqL.of (by rw [hD2s, List.map_map]; rfl), ?_⟩
        rw [List.length_map, EX2.map_range_get (drawD dj) (fun e => !ltD m e) _ (fun i e he => by rw [List.getD_eq_getElem?_getD, he]; rfl)]
        have ea : ((drawD dj).map fun e => !ltD m e).any id = !(drawD dj).all (ltD m) := by rw [List.any_map, List.not_all_eq_any_not]; rfl
        rw [ea]
        have e05 := (e2.trans e4).trans e5
        cases hda : (drawD dj).all (ltD m) with
        | false =>
          have := hbad (by unfold codeOk; rw [hda, Bool.false_and])
          rw [this] at q2
          exact ⟨_, rfl, iteT (q2 _ e05)⟩
        | true =>
        refine ⟨_, rfl, iteF ?_⟩
        refine ⟨_, rfl, x, dj, rfl, hxj.ext e05, hkj, hij, fun L2 H6 e6 hL2 hL2s => ?_⟩
        have e06 := e05.trans e6
        refine ⟨L2, rfl, ⟨_, SqL.of hL2s⟩, fun D3 hD3 => ?_⟩
        refine EX2.lc_map (walk_list (xs := (tgtD dj).map vI)) hD3 (fun H' e => SqL.of (e _ _ hL2s)) (fun i => .bl (!ltD ds.length ((tgtD dj).getD i .none))) (by rw [List.length_map]; exact Nat.le_trans (tgt_len hij) (by decide)) (fun i H3 x H4 _ _ y => by rw [y.1]; exact Evl.Ex.refl _) ?_ ?_
        · rintro i y H7 H8 hi e7 _ ⟨rfl, hy⟩ Qt hQt
          rw [List.getElem?_map] at hy
          obtain ⟨di, hdi, rfl⟩ : ∃ di, (tgtD dj)[i]? = some di ∧ y = vI di := by
            cases hz : (tgtD dj)[i]? with
            | none => rw [hz] at hy; cases hy
            | some di => rw [hz] at hy; exact ⟨di, rfl, (Option.some.inj hy).symm⟩
          obtain ⟨k, rfl⟩ := tgt_int hij di (List.mem_of_getElem? hdi)
          have egd : (tgtD dj).getD i .none = .int k := by rw [List.getD_eq_getElem?_getD, hdi]; rfl
          rw [egd] at hQt
          refine ⟨rfl, _, rfl, _, rfl, _, _, rfl, .inr ⟨_, SqT.of ((e06.trans e7) _ _ ha1), rfl⟩, _, _, rfl, rfl, ?_⟩
          rw [hl]
          have : (decide (k ≥ (ds.length : Int))) = !ltD ds.length (.int k) := by show decide (k ≥ (ds.length : Int)) = !decide (k < (ds.length : Int)); rw [← decide_not]; exact decide_eq_decide.mpr (by omega)
          rw [← this] at hQt
          exact hQt _ (Evl.Ex.refl _)
        intro H7 e7 hD3s
        refine ⟨D3, (List.range ((tgtD dj).map vI).length).map fun i => !ltD ds.length ((tgtD dj).getD i .none), rfl, SqL.of (by rw [hD3s, List.map_map]; rfl), ?_⟩
        rw [List.length_map, EX2.map_range_get (tgtD dj) (fun e => !ltD ds.length e) _ (fun i e he => by rw [List.getD_eq_getElem?_getD, he]; rfl)]
        have ea : ((tgtD dj).map fun e => !ltD ds.length e).any id = !(tgtD dj).all (ltD ds.length) := by rw [List.any_map, List.not_all_eq_any_not]; rfl
        rw [ea]
        have e07 := e06.trans e7
        cases hta : (tgtD dj).all (ltD ds.length) with
        | false =>
          have := hbad (by unfold codeOk; rw [hta, Bool.and_false])
          rw [this] at q2
          exact ⟨_, rfl, iteT (q2 _ e07)⟩
        | true =>
        refine ⟨_, rfl, iteF ⟨e07, fun i e hi he => ?_, _, rfl⟩⟩
        by_cases hij2 : i = j
        · subst hij2
          rw [hdj] at he
          cases he
          unfold codeOk
          rw [hda, hta]
          rfl
        · exact hpre i e (by omega) he
      · rintro σ H2 ⟨e2, hpre, v2, rfl⟩
        have := q2 H2 e2
        rw [show ds.all (codeOk m ds.length) = true from List.all_eq_true.mpr fun e he => by
          obtain ⟨i, hi⟩ := List.mem_iff_getElem?.mp he
          exact hpre i e (by rw [hl]; exact (List.getElem?_eq_some_iff.mp hi).1) hi] at this
        exact this
    | _ => cases hsq
end
end K07
set_option Elab.async false
set_option linter.all false
set_option maxRecDepth 100000
set_option maxHeartbeats 4000000
/-! an instance's attributes as targets of a tuple assignment; data beside an instance -/
namespace EX2
open PySem PySem.Spec PyProof.Rows L2
def gFld (K : PySem.W.Frag) (f : Str) (to : TE) : TG := fun y σ H Q => to σ H fun x H2 => ∃ (a C dx : Addr) (fs : List (Str × V)), x = .ref a ∧ H2 a = some (.ins C dx fs) ∧ Cls K C ∧ NoAttr K C f ∧ fs.length < 1000 ∧ Q σ (upd H2 a (.ins C dx (putF f y fs)))
theorem pg_fld {X : Cx} {o : Expr} {to : TE} {f : Str} {p : Pos} (ho : PE X o to) : PG X (.Attribute o f p) (gFld X.K f to) := by
  refine ⟨fun pins s σ H v u Q I r h => ?_⟩
  refine PySem.W.kas_attr (thn (ho.run pins s σ H _ I h) fun ov s2 ⟨x, H2, I2, r2, a, C, dx, fs, ex, ea, c, n, l, q⟩ => ?_)
  subst ex
  obtain rfl : ov = Value.ref a := r2
  exact setattr_ok I2 ea c n l r fun s3 I3 => ⟨σ, _, I3, q⟩
theorem no_swap3 {env : Env} (hk : env.scope.kind = .function) {o1 o2 o3 : Expr} {a1 a2 a3 : Str} {q1 q2 q3 q4 : Pos} {n1 : Nat} {v : Expr} : swappedStores [.Tuple [.Attribute o1 a1 q1, .Attribute o2 a2 q2, .Attribute o3 a3 q3] n1 q4] v env = pure none := by
  have e : env.blockKind = .function := by
    unfold Env.blockKind
    rw [hk]
    rfl
  unfold swappedStores
  cases v <;> first | rfl | skip
  rename_i vs _ _
  simp only [e]
  split
  · rfl
  · split
    · rfl
    · rename_i h
      split
      · rfl
      · rename_i h2
        exact absurd (by rfl) h2
section
variable {H H' : Hp} {a C dx : Addr} {fs : List (Str × V)}
mutual
theorem Dq.fr (ha : H a = some (.ins C dx fs)) (k : ∀ b o, b ≠ a → H b = some o → H' b = some o) : ∀ {x : V} {d : PyData}, Dq H x d → Dq H' x d
  | _, _, .non => .non
  | _, _, .bl b => .bl b
  | _, _, .int i => .int i
  | _, _, .str x => .str x
  | _, _, .lst q h => .lst (k _ _ (ne_of q ha (fun z => nomatch z)) q) (DqAll.fr ha k h)
  | _, _, .tup q h => .tup (k _ _ (ne_of q ha (fun z => nomatch z)) q) (DqAll.fr ha k h)
  | _, _, .dk q h => .dk (k _ _ (ne_of q ha (fun z => nomatch z)) q) (DqAll.fr ha k h)
theorem DqAll.fr (ha : H a = some (.ins C dx fs)) (k : ∀ b o, b ≠ a → H b = some o → H' b = some o) : ∀ {xs : List V} {ds : List PyData}, DqAll H xs ds → DqAll H' xs ds
  | _, _, .nil => .nil
  | _, _, .cons h t => .cons (Dq.fr ha k h) (DqAll.fr ha k t)
end
end
/-- a method's object -/
structure MethAt (C : Addr) (H : Hp) (m : V) (n : V) (ps : List PyData) (r : V) (sz : V) (cd : List PyData) : Prop where
  ex : ∃ (x dx : Addr) (p c : V), m = .ref x ∧ H x = some (.ins C dx [("own_name", n), ("own_params", p), ("own_result", r), ("own_size", sz), ("own_code", c)]) ∧ Dq H p (.tuple ps) ∧ Dq H c (.tuple cd)
theorem MethAt.ext {C : Addr} {H H' : Hp} {m n r sz : V} {ps cd : List PyData} (h : MethAt C H m n ps r sz cd) (e : Evl.Ex H H') : MethAt C H' m n ps r sz cd := by
  obtain ⟨x, dx, p, c, h1, h2, h3, h4⟩ := h.ex
  exact ⟨x, dx, p, c, h1, e _ _ h2, h3.ext e, h4.ext e⟩
end EX2
set_option Elab.async false
set_option linter.all false
set_option maxRecDepth 100000
set_option maxHeartbeats 2000000
/-! raising an own exception with a super().__init__; an own class made in a try; isinstance of the caught one -/
namespace EX2
open PySem PySem.Spec PyProof.Rows L2
/-- raise C(e, ..) -/
def tMkR (C : Addr) (n : Nat) (fs : List V → List (Str × V)) (ta : TA) : L2.St → Hp → XK → Prop := fun σ H Q => ta σ H fun vs H1 => vs.length = n ∧ ∀ (dx : Addr) (H' : Hp), Evl.Ex H1 H' → H' dx = some (.xd (fs vs)) → Q (.ref C) (some dx) H'
section
variable {X : Cx} {e : Expr} {es : List Expr} {ta : TA} {p pos : Pos}
theorem pmk_xk {x : Str} {C fI : Addr} {k n : Nat} {fd : FuncData} {ps : List Str} {fs : List V → List (Str × V)} (T : ExK X.K C) (iC : PySem.W.findIn X.K (.ref C) "__init__" = some (some (.ref fI))) (tI : PySem.W.typeIn X.K (.ref fI) = some (.type "function"))
    (F1 : FnOk X.prog X.w X.K X.mg X.base CX0 k fI fd ps (spX C n fs)) (hr : Room (k + 1) X.A) (hb : Binds X.K fd ps []) (hg : Gl X x) (hm : X.mg x = some (.ref C)) (hn : n ≤ 1000) (ha : PA X (e :: es) ta)
    (hdb : (x == ("__debug__" : Str)) = false := by decide) (he : starEach (e :: es) X.env = (false, eval e X.env) :: starEach es X.env := by rfl) (hpl : (backTo pos (starEach es X.env)).any (·.1) = false := by rfl) :
    PMk X (.Call (.Name x p) (e :: es) [] pos) (tMkR C n fs ta) := by
  intro pins s σ H Q I h
  refine wpAny_Call_Name_kw (ld_glob I hg hm ?_ hdb)
  refine PySem.W.callWith_K (h₀ := X.base) I.ok.mod.kin T.kC (thn (ha.run pos pins s σ H _ I h) fun us s1 ⟨vs, H1, I1, r1, hz, q1⟩ => ⟨I1.kIn, ?_⟩) he hpl
  show wpAny _ _ (call (.ref C) us) _ _ _
  obtain ⟨nm, Nn, qd, bs, bm, hdct, sn, sub, ab, col, dd, k0, k1, k2, k3, k5, hC, hT⟩ := PySem.W.excInit_of I1.kIn T.init
  obtain ⟨hp, g, dr, tk, os⟩ := s1
  have hsz : hp.objs.size ≤ hp.objs.size + 1 := Nat.le_succ _
  have hn1 : H1 (hp.objs.size + 1) = none := I1.hok.fresh hsz
  have kk : ∀ b o, hp.get? b = some o → ((hp.push (PySem.W.kdv_tup us)).push (PySem.HandSPX.excO C hp.objs.size)).get? b = some o := fun b o e => Heap.get?_push_of_some _ (Heap.get?_push_of_some _ e)
  have hget : ((hp.push (PySem.W.kdv_tup us)).push (PySem.HandSPX.excO C hp.objs.size)).get? (hp.objs.size + 1) = some (PySem.HandSPX.excO C hp.objs.size) := by heap_get
  have I2 : Inv X pins σ (upd H1 (hp.objs.size + 1) (exo (hp.objs.size + 1) C none)) ⟨(hp.push (PySem.W.kdv_tup us)).push (PySem.HandSPX.excO C hp.objs.size), g, dr, tk, os⟩ :=
    I1.laid (t' := tk) (a := hp.objs.size + 1) (o := exo (hp.objs.size + 1) C none) (h' := (hp.push (PySem.W.kdv_tup us)).push (PySem.HandSPX.excO C hp.objs.size)) kk hsz (exo_ok hget)
  have r2 : Vals (V.ref (hp.objs.size + 1) :: vs) (Value.ref (hp.objs.size + 1) :: us) := .cons rfl r1
  have hus : us.length ≤ sizeLine := by
    rw [← Paired.length r1, hz, sizeLine_eq]
    omega
  have hsp : spX C n fs (V.ref (hp.objs.size + 1) :: vs) (upd H1 (hp.objs.size + 1) (exo (hp.objs.size + 1) C none)) (fun v H2 => v = .non ∧ ∃ d, H2 (hp.objs.size + 1) = some (exo (hp.objs.size + 1) C (some d)) ∧ H2 d = some (exd d (fs vs)) ∧ H1 d = none ∧
      Q (.ref C) (some d) (upd (L2.del H2 (hp.objs.size + 1)) d (.xd (fs vs)))) (fun _ _ _ => False) := by
    refine ⟨_, vs, rfl, hz, upd_same, fun H' dx k1 hd hne h1 h2 => ⟨rfl, dx, h1, h2, ?_, ?_⟩⟩
    · rw [upd_ne hne] at hd
      exact hd
    · rw [upd_ne hne] at hd
      refine q1 dx _ (fun b o hb => ?_) upd_same
      have hba : b ≠ hp.objs.size + 1 := ne_of_none hb hn1
      rw [upd_ne (ne_of_none hb hd), L2.del_ne hba]
      refine k1 b o hba ?_
      rw [upd_ne hba]
      exact hb
  have hlen := F1.len _ _ _ _ hsp
  have hbt := hb ⟨(hp.push (PySem.W.kdv_tup us)).push (PySem.HandSPX.excO C hp.objs.size), g, dr, tk, os⟩ (Value.ref (hp.objs.size + 1) :: us) I2.kIn (by rw [List.append_nil, ← r2.length]; exact hlen)
  rw [List.append_nil] at hbt
  refine wpAny_call (PySem.HandSPX.call_own F.excBase_Exception hT hC (PySem.W.looks_findIn I1.kIn iC) (fun self => PySem.W.bind_fn I1.kIn self tI) hus
    (codeAny_mono (F1.run _ X.stack _ _ ⟨Value.ref (hp.objs.size + 1) :: us, []⟩ (Value.ref (hp.objs.size + 1) :: us) _ _ (fun _ _ _ => False) (hr.make C us []) (I2.env0.make C us []) hbt r2 hsp) fun r s' hq' => ?_))
  cases r with
  | error er => exact False.elim hq'
  | ok fl =>
    cases fl with
    | ret u =>
      obtain ⟨v, H2, os2, bare2, un2, hok2, rv, ev, d, ea, ed, hd1, q2⟩ := hq'
      subst ev
      obtain ⟨h2, g2, d2, t2, os'⟩ := s'
      exact ⟨rv, mk_end (raises_own T.exC T.tyC) I1 hsz kk un2 hok2 os2 bare2 ea ed hd1 q2⟩
    | next => exact False.elim hq'
    | brk => exact False.elim hq'
    | cont => exact False.elim hq'
end
/-! ### a class made, at the slots σ -/
section
variable {X : Cx} {CX : CXT} {k : Nat} {f C : Addr} {fd : FuncData} {ps : List Str} {sp : Sp} {E : L2.St → XK} {x : Str} {p pos : Pos} {e : Expr} {es : List Expr} {t : TA}
def tMakeS (C : Addr) (sp : Sp) (E : L2.St → XK) (t : TA) : TE := fun σ H Q => t σ H fun vs H1 => ∀ x dx, H1 x = none → H1 dx = none → dx ≠ x → sp (.ref x :: vs) (upd (upd H1 dx (.own x)) x (.ins C dx [])) (fun v H2 => v = .non ∧ Q (.ref x) H2) (E σ)
theorem pe_makeS (M : Mk X.K C f) (F : FnOk X.prog X.w X.K X.mg X.base CX k f fd ps sp) (hr : Room (k + 1) X.A) (hg : Gl X x) (hm : X.mg x = some (.ref C)) (hb : Binds X.K fd ps []) (hx : ∀ σ, PassesAt CX X σ (E σ))
    (ha : PA X (e :: es) t) (hdb : (x == ("__debug__" : Str)) = false := by decide) (he : starEach (e :: es) X.env = (false, eval e X.env) :: starEach es X.env := by rfl) (hpl : (backTo pos (starEach es X.env)).any (·.1) = false := by rfl) :
    PE X (.Call (.Name x p) (e :: es) [] pos) (tMakeS C sp E t) := by
  refine ⟨fun pins s σ H Q I h => ?_⟩
  refine wpAny_Call_Name_kw (ld_glob I hg hm ?_ hdb)
  refine PySem.W.callWith_K (h₀ := X.base) I.ok.mod.kin M.kp (thn (ha.run pos pins s σ H _ I h) fun us s1 ⟨vs, H1, I1, r, q⟩ => ⟨I1.kIn, ?_⟩) he hpl
  have hq := q (s1.heap.objs.size + 1) s1.heap.objs.size (I1.hok.fresh (Nat.le_succ _)) (I1.hok.fresh (Nat.le_refl _)) (Nat.ne_of_lt (Nat.lt_succ_self _))
  have I2 := Inv.made (C := C) I1
  have r2 : Vals (V.ref (s1.heap.objs.size + 1) :: vs) (Value.ref (s1.heap.objs.size + 1) :: us) := .cons rfl r
  have hl : (Value.ref (s1.heap.objs.size + 1) :: us).length = ps.length := by
    have e := r2.length
    rw [F.len _ _ _ _ hq] at e
    exact e.symm
  have hbt := hb _ (Value.ref (s1.heap.objs.size + 1) :: us) I2.kIn (by rw [List.append_nil]; exact hl)
  rw [List.append_nil] at hbt
  refine wpAny_call (make_map (f := f) I1.kIn M.makes M.init (beq_iff_eq.mp M.fn) (codeAny_mono (F.run _ X.stack _ _ ⟨Value.ref (s1.heap.objs.size + 1) :: us, []⟩ (Value.ref (s1.heap.objs.size + 1) :: us) _ _ (E σ) (hr.make C us [])
    (I2.env0.make C us []) hbt r2 hq) fun r s' hq' => ?_))
  cases r with
  | error e => exact hx σ pins _ _ e s' I2 hq'
  | ok fl =>
    cases fl with
    | ret u =>
      obtain ⟨v, H', I3, rv, ev, q3⟩ := I2.after hq'
      subst ev
      exact ⟨rv, ⟨V.ref (s1.heap.objs.size + 1), H', I3, rfl, q3⟩⟩
    | next => exact False.elim hq'
    | brk => exact False.elim hq'
    | cont => exact False.elim hq'
end
/-- isinstance(e, c), e the caught exception with its dict -/
def rIsXE (K : PySem.W.Frag) (a : Addr) (cls : Value) (d : Option Addr) : List V → Hp → VK → Prop := fun xs H Q => ∃ (C dd : Addr) (fs : List (Str × V)) (c : V) (u : Value) (b : Bool), xs = [.ref a, c] ∧ ClsV c u ∧ cls = .ref C ∧ d = some dd ∧ H dd = some (.xd fs) ∧ ExcC K C ∧ PySem.W.kitOne K (.ref C) u = some b ∧ Q (.bl b) H
theorem call_isXE {X : Cx} {a : Addr} {oe : Obj} {cls : Value} {d : Option Addr} {pn : List (Addr × Obj)} (hz : Zc cls d oe) (hf : ∃ vs, oe.data = .fields vs) : CallR (X.suite a ((a, oe) :: pn)) (.builtin "isinstance") (rIsXE X.K a cls d) := by
  intro pins s σ H xs us Q I r h
  obtain ⟨C, dd, fs, c, u, b, rfl, k, ec, ed, hd, T, e, q⟩ := h
  subst ec ed
  obtain ⟨u1, u2, rfl, r1, r2⟩ := vals2 r
  have e2 := k.eq r2
  subst e2
  obtain rfl : u1 = Value.ref a := r1
  obtain ⟨hget, _⟩ := I.pin (a, oe) (List.mem_append.mpr (.inl List.mem_cons_self))
  obtain ⟨vs, hv⟩ := hf
  obtain ⟨mA, hns, rel⟩ : ObjOk X.prog X.w H s.heap dd (.xd fs) := I.hok dd _ hd
  obtain ⟨od, hod, hl⟩ := lookIn_ns hns
  have J : PySem.W.InstAt s.heap a oe C (some od) := by
    obtain ⟨oc, odd, oda, osl⟩ := oe
    obtain ⟨h1, h2⟩ := hz
    dsimp only at h1 h2 hv
    subst h1 h2 hv
    exact ⟨hget, rfl, rfl, hod⟩
  exact PySem.W.kia_one (PySem.W.kitx_excD T.hg T.hk T.hs T.hd T.ha T.hn T.ht T.hm) I.kIn J e (fun z => nomatch z) fun tk => ⟨.bl b, H, I.tok tk, rfl, q⟩
end EX2
set_option Elab.async false
set_option linter.all false
set_option maxRecDepth 100000
set_option maxHeartbeats 2000000
/-! x == y, x an instance of a class with its own == -/
namespace EX2
open PySem PySem.Spec PyProof.Rows L2
def rEqI (C : Addr) (sp : Sp) : R2 := fun x y H Q => ∃ (a dx : Addr) (fs : List (Str × V)) (b : Addr), x = .ref a ∧ y = .ref b ∧ H a = some (.ins C dx fs) ∧ ((∃ dy gs, H b = some (.ins C dy gs)) ∨ ∃ xs, H b = some (.lst xs)) ∧
  sp [.ref a, .ref b] H (fun v H' => ∃ r, v = .bl r ∧ Q (.bl r) H') E0
theorem op_eqI {X : Cx} {C f : Addr} {n : Nat} {fd : FuncData} {ps : List Str} {sp : Sp} (F : FnOk X.prog X.w X.K X.mg X.base CX0 n f fd ps sp) (hs : PySem.W.findIn X.K (.ref C) "__eq__" = some (some (.ref f))) (hf : PySem.W.isFn X.K (.ref f) = true) (hb : Binds X.K fd ps []) (hr : Room n X.A) :
    OpR X (compareOp .Eq) (rEqI C sp) := by
  intro pins s σ H x y v u Q I rx ry h
  obtain ⟨a, dx, fs, b, rfl, rfl, ha, hb', hsp⟩ := h
  cases rx
  cases ry
  show wpAny (model X.prog X.w) X.A (richCompare .Eq (.ref a) (.ref b)) (EP X pins σ Q) X.xe s
  obtain ⟨mA, J, _⟩ := ins_get I.hok ha
  obtain ⟨od, J, _⟩ := J.look
  obtain ⟨m, hF⟩ := I.fr
  have hy : ∃ tb, PySem.W.Looks (model X.prog X.w) s.heap (typeOf (.ref b)) tb ∧ PySem.W.notFirst X.K C tb = true := by
    rcases hb' with ⟨dy, gs, hb'⟩ | ⟨xs, hb'⟩
    · obtain ⟨mB, J', _⟩ := ins_get I.hok hb'
      obtain ⟨od', J', _⟩ := J'.look
      exact ⟨.ref C, J'.type, by simp [PySem.W.notFirst]⟩
    · obtain ⟨_, its, nn, _, hg⟩ : ObjOk X.prog X.w H s.heap b (.lst xs) := I.hok b _ hb'
      exact ⟨.type "list", fun A Q E s k q => wpAny_typeOf_ref (k _ _ hg) q, by
        have e : PySem.W.subIn X.K (.type "list") (.ref C) = some false := by
          show Option.map (fun x => x.contains (Value.ref C)) (fastBuiltinMro "list") = some false
          rw [show fastBuiltinMro "list" = some [.type "list", .type "object"] from by kernel_rfl]
          rfl
        unfold PySem.W.notFirst
        rw [e]
        rfl⟩
  obtain ⟨tb, LT, hn⟩ := hy
  refine PySem.W.cmp_K (op := .Eq) (tb := tb) hr.units0 hF I.ok.mod.kin J LT hn hs hf ?_
  have hl := F.len _ _ _ _ hsp
  have r2 : Vals [V.ref a, V.ref b] [Value.ref a, Value.ref b] := .cons rfl (.cons rfl .nil)
  refine wpAny_call (codeAny_mono (F.run X.A X.stack s H ⟨[.ref a, .ref b], []⟩ [.ref a, .ref b] [.ref a, .ref b] _ E0 hr I.env0 (by
    have := hb s [.ref a, .ref b] I.kIn (by simpa using hl)
    simpa using this) r2 hsp) fun r s' hq => ?_)
  cases r with
  | error e => exact hq.elim
  | ok fl =>
    cases fl with
    | ret w =>
      obtain ⟨z, H', I', rz, r, ez, q⟩ := I.after hq
      subst ez
      cases rz
      exact ⟨.bl r, H', I', rfl, q⟩
    | next => exact False.elim hq
    | brk => exact False.elim hq
    | cont => exact False.elim hq
end EX2
set_option Elab.async false
set_option linter.all false
set_option maxRecDepth 100000
set_option maxHeartbeats 4000000
/-! a dict of one pair, its key a tuple of texts and ints; repr of data or of such a dict; the heap before a source -/
namespace EX2
open PySem PySem.Spec PyProof.Rows L2
/-- {k: v}, k a tuple of ints and texts -/
def tDisT (tk tv : TE) : TE := fun σ H Q => ∀ p, H p = none → tPairs [(tk, tv)] σ (upd H p (.dT [])) fun ps H2 => H2 p = some (.dT []) ∧ ∃ (b : Addr) (ks : List Key) (y : V), ps = [(.ref b, y)] ∧ H2 b = some (.tup (ks.map kV)) ∧ Q (.ref p) (upd H2 p (.dT [(ks, y)]))
theorem pe_disT {X : Cx} {pos : Pos} {k v : Expr} {tk tv : TE} (hu : X.A.units + 1 < cLine) (hk : PE X k tk) (hv : PE X v tv) : PE X (.Dict [some k] [v] pos) (tDisT tk tv) := by
  refine ⟨fun pins s σ H Q I q => ?_⟩
  have hn := I.hok.fresh (Nat.le_refl s.heap.objs.size)
  have I1 := I.laid (a := s.heap.objs.size) (o := .dT []) (h' := s.heap.push { cls := .type "dict", data := .dict #[] }) (t' := s.toks) (fun _ _ q => Heap.get?_push_of_some _ q) (Nat.le_refl _) (dt_empty s.heap I.big)
  have hpp : PPs X pos [some k] [v] [(tk, tv)] := pps_cons hk hv pps_nil
  have q0 := q _ hn
  rw [arm_eval_Dict, zip_pairTrees [some k] [v] X.env pos rfl rfl, dictDisplay_pairs (pairTrees [some k] [v] X.env pos) (by simp [pairTrees]) (by simp [pairTrees])]
  refine wpAny_bind (wpAny_standAt (wpAny_bind (wpAny_subDictH (knd := tupleKind (mixKind X.prog X.w)) (Q := fun d s' => wpAny (model X.prog X.w) X.A (pure (Value.ref d)) (EP X pins σ Q) X.xe s') ?_ (by simp [pairTrees]) ?_)))
  · exact Nat.lt_of_succ_lt hu
  refine thn (hpp.run pins _ σ _ _ I1 q0) ?_
  rintro ws s2 ⟨ps, H2, I2, rel, e, b, ks, y, rfl, eb, q2⟩
  cases rel with
  | cons h t =>
    cases t
    rename_i wv
    obtain ⟨w1, w2⟩ := wv
    obtain ⟨r1, r2⟩ := h
    obtain rfl : w1 = Value.ref b := r1
    obtain ⟨z, hd, xs, rx, dd⟩ := dt_of I2.hok e
    cases rx
    refine ⟨[(ks, b, w2)], ⟨rfl, rfl, key_of I2.hok eb, trivial⟩, dd, fun h' tk dd' hs => ?_⟩
    obtain ⟨q, es, ep, hq, h2, h3, h4, _, h5⟩ := dd'
    refine wpAny_pure ⟨.ref s.heap.objs.size, _, ?_, rfl, q2⟩
    refine d_write (t' := tk) I2 (by rw [e]; exact True.intro) hs ⟨q, hq⟩ ⟨by rw [sizeLine_eq]; simp, hd, [(ks, b, w2)], .cons ⟨rfl, ?_, r2⟩ .nil, q, es, ep, hq, h2, h3, h4, h5⟩
    rw [upd_ne (ne_of eb e (fun z => nomatch z))]
    exact eb
/-- the dict of one pair as data -/
def tdD (ks : List Key) (d : PyData) : PyData := .dict [(.tuple (ks.map kD), d)]
/-- data, or the dict of one pair whose key is a tuple -/
inductive Dw (H : Hp) : V → PyData → Prop
  | q {x : V} {d : PyData} (h : Dq H x d) : Dw H x d
  | t {a : Addr} {ks : List Key} {y : V} {d : PyData} (e : H a = some (.dT [(ks, y)])) (h : Dq H y d) : Dw H (.ref a) (tdD ks d)
theorem Dw.ext {H H' : Hp} (e : Evl.Ex H H') {x : V} {d : PyData} (h : Dw H x d) : Dw H' x d := by
  cases h with
  | q h => exact .q (h.ext e)
  | t a h => exact .t (e _ _ a) (h.ext e)
theorem keysD (H : Hp) : ∀ ks : List Key, DqAll H (ks.map kV) (ks.map kD)
  | [] => .nil
  | .inl i :: l => .cons (.int i) (keysD H l)
  | .inr x :: l => .cons (.str x) (keysD H l)
theorem Dw.reads {P : Program} {w : World} {H : Hp} {h : Heap} (ok : HOk P w H h) (sd : SysD h) {a : Addr} {ks : List Key} {y : V} {d : PyData} (e : H a = some (.dT [(ks, y)])) (q : Dq H y d) : ∃ as, Reads h (.ref a) (tdD ks d) as ∧ sysModules ∉ as := by
  obtain ⟨hz, hs, vs, rk, o, es, ep, h1, h2, h3, h4, _⟩ := (show ObjOk P w H h a (.dT [(ks, y)]) from ok a _ e)
  cases rk with
  | @cons _ x _ _ hh t =>
    cases t
    obtain ⟨k', b, v'⟩ := x
    obtain ⟨e1, e2, e3⟩ : ks = k' ∧ H b = some (.tup (ks.map kV)) ∧ L2.RelV y v' := hh
    cases e1
    obtain ⟨as, r1, n1⟩ := Dq.reads ok sd (.ref b) (.tup e2 (keysD H ks)) rfl
    obtain ⟨bs, r2, n2⟩ := Dq.reads ok sd v' q e3
    refine ⟨_, .dict h1 h2.1 h3 (as := as ++ []) (bs := bs ++ []) ?_ ?_, fun z => ?_⟩
    · rw [h4]
      exact .cons r1 .nil
    · rw [h4]
      exact .cons r2 .nil
    · rcases List.mem_cons.mp (show sysModules ∈ a :: (as ++ [] ++ (bs ++ [])) from z) with z | z
      · rw [z] at hs
        simp at hs
      · simp at z
        exact z.elim n1 n2
/-! ### repr of it -/
def rReprW : List V → Hp → VK → Prop := fun xs H Q => ∃ (x : V) (d : PyData), xs = [x] ∧ Dw H x d ∧ d.showable = true ∧ d.shown.length ≤ sizeLine ∧ d.depth ≤ 60 ∧ Q (.str d.shown) H
theorem call_reprW {X : Cx} (hg : X.A.guards = some []) (hu : X.A.units + 65 < cLine) (sd : SysD X.base) : CallR X (.builtin "repr") rReprW := by
  intro pins s σ H xs us Q I r h
  obtain ⟨x, d, rfl, hd, hs, hz, hdp, q⟩ := h
  cases hd with
  | q hd => exact call_reprD hg hu sd pins s σ H _ us Q I r ⟨x, d, rfl, hd, hs, hz, hdp, q⟩
  | @t a ks y d e hq =>
    obtain ⟨u, rfl, r1⟩ := vals1 r
    have sd1 : SysD s.heap := by
      obtain ⟨o, es, n, h1, h2⟩ := sd
      exact ⟨o, es, n, I.bk _ _ h1, h2⟩
    obtain ⟨as, rd, hn⟩ := Dw.reads I.hok sd1 e hq
    obtain rfl : u = Value.ref a := r1
    exact repr_of_reads' rd hs (fun _ => hn) hg (by omega) (fun _ _ e => e) (fun h' u tk k => ⟨.str _, H, I.kept (t' := tk) k, ⟨_, rfl⟩, q⟩) hz
/-! ### the heap before a source -/
theorem Lx.back {p : Addr} {H H1 H' : Hp} {o : HO} (hp : H p = none) (l : Lx p (upd H p o) H') : Evl.Ex H H' := fun b u e => by
  have nb : b ≠ p := by rintro rfl; rw [hp] at e; cases e
  exact l.at (by rw [upd_ne nb]; exact e) nb
theorem ok_get {P : Program} {w : World} {K : PySem.W.Frag} {mg : Str → Option Value} {base : Heap} {f : Addr} {fd : FuncData} {C : Addr} {name qual x : Str} {params : Arguments} {body : List Stmt} {scope : Scope} {N : List Str} {p1 p2 p3 : Pos}
    (F : FunD K name qual params body scope [] [] f fd) (S : FnScope N ["self"] scope) (hN : N[0]? = some ("self" : Str)) (hb : body = [.Return (some (.Attribute (.Name "self" p1) x p2)) p3]) (c : Cls K C) (n : NoAttr K C x) : FnOk P w K mg base CX0 1 f fd ["self"] (getSp C x) := by
  refine F.ok S (fun vs H Q E h => ?_) (fun cdv A outer s H vs Q E hr h => ?_)
  · obtain ⟨a, dx, fs, v, e, _⟩ := h
    rw [e]
    rfl
  · obtain ⟨a, dx, fs, v, e, ea, l, q⟩ := h
    subst e
    subst hb
    refine ⟨_, PSs.nox (pss_one (ps_ret (pe_fld (pe_var (i := 0) hN ((S.par "self" (List.Mem.head _)).elim (fun z => .inl z) (fun z => .inr (.inl z)))) rfl))), ?_⟩
    exact ⟨.ref a, rfl, a, C, dx, fs, v, rfl, ea, c, n, l, q⟩
/-- two promises of one function -/
theorem FnOk.both {P : Program} {w : World} {K : PySem.W.Frag} {mg : Str → Option Value} {base : Heap} {CX : CXT} {k : Nat} {f : Addr} {fd : FuncData} {ps : List Str} {sp sp' : Sp} (F : FnOk P w K mg base CX k f fd ps sp) (F' : FnOk P w K mg base CX k f fd ps sp') :
    FnOk P w K mg base CX k f fd ps (fun vs H Q E => sp vs H Q E ∨ sp' vs H Q E) :=
  ⟨fun vs H Q E h => h.elim (F.len vs H Q E) (F'.len vs H Q E), fun A outer s H args us vs Q E hr e0 hb r h => h.elim (F.run A outer s H args us vs Q E hr e0 hb r) (F'.run A outer s H args us vs Q E hr e0 hb r)⟩
end EX2
set_option Elab.async false
set_option linter.all false
set_option maxRecDepth 100000
set_option maxHeartbeats 0
namespace K07
open PySem PySem.Spec PyProof.Rows L2 EX2
abbrev sInit : Stmt := inClass (top 23) 0
abbrev sParts : Stmt := inClass (top 23) 6
abbrev sEq : Stmt := inClass (top 23) 7
/-- a method's class: what the head says -/
structure MethF (K : PySem.W.Frag) (mg : Str → Option Value) : Prop where
  hm : mg "Method" = some (.ref (He.ga K "Method"))
  mkr : Mk K (He.ga K "Method") (He.ma K (He.ga K "Method") "__init__")
  cl : Cls K (He.ga K "Method")
  n1 : NoAttr K (He.ga K "Method") "own_name"
  n2 : NoAttr K (He.ga K "Method") "own_params"
  n3 : NoAttr K (He.ga K "Method") "own_result"
  n4 : NoAttr K (He.ga K "Method") "own_size"
  n5 : NoAttr K (He.ga K "Method") "own_code"
  pm : Meth K (He.ga K "Method") "parts" (He.ma K (He.ga K "Method") "parts")
  em : Meth K (He.ga K "Method") "__eq__" (He.ma K (He.ga K "Method") "__eq__")
  parts : ∃ fd, FunD K "parts" "Method.parts" (defArgs sParts) (defBody sParts) (defScope sParts) [] [] (He.ma K (He.ga K "Method") "parts") fd
  eq : ∃ fd, FunD K "__eq__" "Method.__eq__" (defArgs sEq) (defBody sEq) (defScope sEq) [] [] (He.ma K (He.ga K "Method") "__eq__") fd
  init : ∃ fd, FunD K "__init__" "Method.__init__" (defArgs sInit) (defBody sInit) (defScope sInit) [] [] (He.ma K (He.ga K "Method") "__init__") fd
/-- the exception's class -/
structure ExcF (P : Program) (w : World) (K : PySem.W.Frag) (mg : Str → Option Value) (base : Heap) : Prop where
  hm : mg "InvalidMethod" = some (.ref (He.ga K "InvalidMethod"))
  hB : mg "ClassError" = some (.ref (He.ga K "ClassError"))
  g : ClsG K (He.ga K "InvalidMethod") (He.ga K "ClassError") (ini K "InvalidMethod") ["given"]
  fn : ∃ fd, FnOk P w K mg base CX0 1 (ini K "InvalidMethod") fd ["self", "given"] (spX (He.ga K "InvalidMethod") 1 fun xs => [("given", xs.headD .non)]) ∧ Binds K fd ["self", "given"] []
  cB : ((PySem.W.clsIn K (He.ga K "ClassError")).isSome && PySem.W.typeIn K (.ref (He.ga K "ClassError")) == some (.type "type")) = true
/-- right parts -/
structure PartsOk (H : Hp) (n p r z c : V) (dn : PyData) (dp : PyData) (dr : PyData) (sz : Int) (dc : PyData) : Prop where
  hn : Dq H n dn
  hp : Dq H p dp
  hr : Dq H r dr
  hz : z = .int sz
  hc : Dq H c dc
  on : okD dn = true
  op : okD dp = true
  or : okD dr = true
  oc : okD dc = true
  kn : nameD dn = true
  kp : seqD 4 dp = true
  kt : (itemsOf dp).all typeD = true
  kr : typeD dr = true
  kz : inR (1 + (itemsOf dp).length) 10 (.int sz) = true
  kc : codeD sz dc = true
theorem PartsOk.ext {H H' : Hp} {n p r z c : V} {dn dp dr dc : PyData} {sz : Int} (h : PartsOk H n p r z c dn dp dr sz dc) (e : Evl.Ex H H') : PartsOk H' n p r z c dn dp dr sz dc :=
  { h with hn := h.hn.ext e, hp := h.hp.ext e, hr := h.hr.ext e, hc := h.hc.ext e }
def mfields (n p r z c : V) : List (Str × V) := [("own_name", n), ("own_params", p), ("own_result", r), ("own_size", z), ("own_code", c)]
def spInit (C : Addr) : Sp := fun vs H Q _ => ∃ (a dx : Addr) (n p r z c : V) (dn dp dr dc : PyData) (sz : Int), vs = [.ref a, n, p, r, z, c] ∧ H a = some (.ins C dx []) ∧ PartsOk H n p r z c dn dp dr sz dc ∧
  ∀ (H' : Hp) (p' c' : V), (∀ b o, b ≠ a → H b = some o → H' b = some o) → H' a = some (.ins C dx (mfields n p' r z c')) → Dq H' p' (.tuple (itemsOf dp)) → Dq H' c' (.tuple (itemsOf dc)) → Q .non H'
theorem seq_sq {K : PySem.W.Frag} {H : Hp} {x : V} {d : PyData} {m : Int} (h : Dq H x d) (k : seqD m d = true) : ∃ a xs, x = .ref a ∧ (H a = some (.lst xs) ∨ H a = some (.tup xs)) ∧ DqAll H xs (itemsOf d) ∧ ((itemsOf d).length : Int) ≤ m := by
  cases d with
  | list ds =>
    obtain ⟨a, xs, rfl, ha, hall⟩ := h.lstI
    exact ⟨a, xs, rfl, .inl ha, hall, of_decide_eq_true k⟩
  | tuple ds =>
    obtain ⟨a, xs, rfl, ha, hall⟩ := h.tupI
    exact ⟨a, xs, rfl, .inr ha, hall, of_decide_eq_true k⟩
  | _ => cases k
theorem okAll_items {d : PyData} (h : okD d = true) : okAll (itemsOf d) = true := by
  cases d with
  | list ds => exact h
  | tuple ds => exact h
  | _ => rfl
theorem seqq_of {K : PySem.W.Frag} {H : Hp} {a : Addr} {xs : List V} (h : H a = some (.lst xs) ∨ H a = some (.tup xs)) {R : It → Hp → Prop} (q : ∀ J, Walk J xs.length (fun H' => H' a = H a) (YAt xs) → R J H) :
    ((∃ xs, SqL K H a xs) ∧ R (Itl K a) H) ∨ ((∃ xs, SqT K H a xs) ∧ R (Itt K a) H) := by
  rcases h with h | h
  · exact .inl ⟨⟨_, SqL.of h⟩, q _ ((walk_list (K := K) (a := a) (xs := xs)).mono (fun H' e => SqL.of (e.trans h)) fun _ _ _ _ _ _ y => y)⟩
  · exact .inr ⟨⟨_, SqT.of h⟩, q _ ((walk_tup (K := K) (a := a) (xs := xs)).mono (fun H' e => SqT.of (e.trans h)) fun _ _ _ _ _ _ y => y)⟩
theorem len_of {K : PySem.W.Frag} {H : Hp} {a : Addr} {xs : List V} (h : H a = some (.lst xs) ∨ H a = some (.tup xs)) : LenV K (.ref a) H xs.length := by
  rcases h with h | h
  · exact .inl ⟨_, SqL.of h, rfl⟩
  · exact .inr ⟨_, SqT.of h, rfl⟩
theorem ex_or {H H' : Hp} {a : Addr} {xs : List V} (e : Evl.Ex H H') (h : H a = some (.lst xs) ∨ H a = some (.tup xs)) : H' a = H a := by
  rcases h with h | h <;> rw [h, e _ _ h]
section
variable {P : Program} {w : World} {K : PySem.W.Frag} {mg : Str → Option Value} {base : Heap} {f : Addr} {fd : FuncData}
abbrev nInit : List Str := ["self", "name", "params", "result", "size", "code", "kind"]
theorem scInit : FnScope nInit ["self", "name", "params", "result", "size", "code"] (defScope sInit) := ⟨rfl, rfl, rfl, by decide +kernel, rfl, by decide +kernel, by decide +kernel⟩
/-- tuple(x) of a list or a tuple -/
def rTupD : List V → Hp → VK → Prop := fun xs H Q => ∃ (x : V) (d : PyData) (m : Int), xs = [x] ∧ Dq H x d ∧ seqD m d = true ∧ ∀ (H' : Hp) (t : V), Evl.Ex H H' → Dq H' t (.tuple (itemsOf d)) → Q t H'
theorem call_tupD {X : Cx} : CallR X (.type "tuple") rTupD := by
  intro pins s σ H xs us Q I r h
  obtain ⟨x, d, m, rfl, hd, k, q⟩ := h
  refine call_tuple_of pins s σ H _ us Q I r ?_
  cases d with
  | list ds =>
    obtain ⟨p, xs, rfl, hp, hall⟩ := hd.lstI
    exact ⟨p, xs, rfl, .inl ⟨SqL.of hp, fun l hl => q _ _ (Evl.Ex.new hl) (.tup upd_same (hall.ext (Evl.Ex.new hl)))⟩⟩
  | tuple ds =>
    obtain ⟨p, xs, rfl, hp, hall⟩ := hd.tupI
    exact ⟨p, xs, rfl, .inr ⟨SqT.of hp, q _ _ (Evl.Ex.refl _) (.tup hp hall)⟩⟩
  | _ => cases k
/-- code(x), x no list and no tuple but a dict with tuple keys -/
def spCodeT : Sp := fun vs H Q _ => ∃ (a : Addr) (kvs : List (List Key × V)) (m : Int), vs = [.ref a, .int m] ∧ H a = some (.dT kvs) ∧ ∀ H', Evl.Ex H H' → Q (.bl false) H'
def spSeqT : Sp := fun vs H Q _ => ∃ (a : Addr) (kvs : List (List Key × V)) (m : Int), vs = [.ref a, .int m] ∧ H a = some (.dT kvs) ∧ ∀ H', Evl.Ex H H' → Q (.bl false) H'
theorem ok_seqT (F : FnP K "is_sequence" ssequence f fd) (D : Defs w K mg) : FnOk P w K mg base CX0 1 f fd ["obj", "most"] spSeqT := by
  have T := D.t
  refine F.ok scseq (fun vs H Q E h => ?_) (fun cdv A outer s H vs Q E hr h => ?_)
  · obtain ⟨a, kvs, m, rfl, _⟩ := h
    rfl
  · obtain ⟨a, kvs, m, rfl, ha, hQ⟩ := h
    refine ⟨_, PSs.nox (pss_one (ps_ret (pe_and (pe_callB call_isiT rfl T.isi boot_isi (pa_cons (pv 0) (pa_cons (pe_tup (pa_cons (pe_bltn rfl T.lst boot_list (v := .ty "list") rfl) (pa_cons (pe_bltn rfl T.tup boot_tuple (v := .ty "tuple") rfl) pa_nil))) pa_nil))) (pe_one (pe_cmpR op_le (pe_callB call_len rfl T.len boot_len (pa_cons (pv 0) pa_nil)) (pv 1) (nomark _)))))), ?_⟩
    refine ⟨_, rfl, le_line (by simp), fun t1 h1 => ?_⟩
    have e1 := Evl.Ex.new (o := .tup [.ty "list", .ty "tuple"]) h1
    refine ⟨.ref a, t1, _, _, _, _, rfl, upd_same, .cons (.ty _) (.cons (.ty _) .nil), .base (.dT (e1 _ _ ha)), kit_list2 (.dict []), _, rfl, ?_⟩
    exact iteF (hQ _ e1)
theorem ok_codeT (F : FnP K "is_code" scode f fd) (D : Defs w K mg) : FnOk P w K mg base CX0 5 f fd ["value", "size"] spCodeT := by
  have T := D.t
  obtain ⟨tC, gC⟩ := D.code40
  obtain ⟨fI, fdI, gI, FI⟩ := D.is_instruction
  have GI : FnOk P w K mg base CX0 4 fI fdI ["value"] (spD insD) := ok_ins FI D
  have bI : Binds K fdI ["value"] [] := FI.bindsN fun _ _ _ _ _ _ us hl => match us, hl with | [_], _ => rfl
  obtain ⟨fS, fdS, gS, FS⟩ := D.is_sequence
  have GS : FnOk P w K mg base CX0 1 fS fdS ["obj", "most"] spSeqT := ok_seqT FS D
  have bS : Binds K fdS ["obj", "most"] [] := FS.bindsN fun _ _ _ _ _ _ us hl => match us, hl with | [_, _], _ => rfl
  obtain ⟨fR, fdR, gR, FR⟩ := D.drawers_in
  have GR : FnOk P w K mg base CX0 1 fR fdR ["instruction"] (spInts drawD) := ok_drawers FR D
  have bR : Binds K fdR ["instruction"] [] := FR.bindsN fun _ _ _ _ _ _ us hl => match us, hl with | [_], _ => rfl
  obtain ⟨fT, fdT, gT, FT⟩ := D.targets_in
  have GT : FnOk P w K mg base CX0 1 fT fdT ["instruction"] (spInts tgtD) := ok_targets FT D
  have bT : Binds K fdT ["instruction"] [] := FT.bindsN fun _ _ _ _ _ _ us hl => match us, hl with | [_], _ => rfl
  refine F.ok sccode (fun vs H Q E h => ?_) (fun cdv A outer s H vs Q E hr h => ?_)
  · obtain ⟨a, kvs, m, rfl, _⟩ := h
    rfl
  · obtain ⟨a, kvs, m, rfl, ha, hQ⟩ := h
    refine ⟨_, PSs.nox (pss_cons (ps_if (PW.pt (pw_or (pt_not (pt_val (pe_call GS (hr.mono (by decide)) rfl gS FS.kp bS .nil pass0 (pa_cons (pv 0) (pa_cons (pe_glob rfl gC (v := .int 40) ⟨tC, rfl⟩) pa_nil))))) (pw_or (pt_cmpR op_eq (pe_callB call_len rfl T.len boot_len (pa_cons (pv 0) pa_nil)) pe_int (nomark _)) (pw_or1 (pt_not (pt_val (pe_callB (cr_all rfl) rfl T.all boot_all (pa_cons (pe_lc (own := [("item", 2)]) (g := gName 2) (tt := tYes) rfl sccode.nd (pi_seqq (pv 0)) (blkOk_by (N := ncode) (sc := defScope scode) (by decide +kernel)) (fun _ _ _ _ _ => (pg_name (i := 2) sccode.nd rfl (Or.inl rfl))) (fun _ _ _ _ _ => pts_nil) (fun _ _ _ _ _ => (pe_call GI (hr.mono (by decide)) rfl gI FI.kp bI .nil pass0 (pa_cons (pv 2) pa_nil)))) pa_nil))))))))
        (pss_one (ps_ret pe_bl))
        pss_nil)
      (pss_cons (ps_for PassesOwn.never rfl (pi_seqq (pv 0)) (pg_name (i := 2) sccode.nd rfl (Or.inl rfl))
        (pss_cons (ps_if (pt_val (pe_callB (cr_any rfl) rfl T.any boot_any (pa_cons (pe_lc (own := [("drawer", 3)]) (g := gName 3) (tt := tYes) rfl sccode.nd (pi_list (pe_call GR (hr.mono (by decide)) rfl gR FR.kp bR .nil pass0 (pa_cons (pv 2) pa_nil))) (blkOk_by (N := ncode) (sc := defScope scode) (by decide +kernel)) (fun _ _ _ _ _ => (pg_name (i := 3) sccode.nd rfl (Or.inl rfl))) (fun _ _ _ _ _ => pts_nil) (fun _ _ _ _ _ => (pe_cmpR op_ge (pv 3) (pv 1) (nomark _)))) pa_nil)))
          (pss_one (ps_ret pe_bl))
          pss_nil)
        (pss_one (ps_if (pt_val (pe_callB (cr_any rfl) rfl T.any boot_any (pa_cons (pe_lc (own := [("target", 4)]) (g := gName 4) (tt := tYes) rfl sccode.nd (pi_list (pe_call GT (hr.mono (by decide)) rfl gT FT.kp bT .nil pass0 (pa_cons (pv 2) pa_nil))) (blkOk_by (N := ncode) (sc := defScope scode) (by decide +kernel)) (fun _ _ _ _ _ => (pg_name (i := 4) sccode.nd rfl (Or.inl rfl))) (fun _ _ _ _ _ => pts_nil) (fun _ _ _ _ _ => (pe_cmpR op_ge (pv 4) (pe_callB (r := rLen K) call_len rfl T.len boot_len (pa_cons (pv 0) pa_nil)) (nomark _)))) pa_nil)))
          (pss_one (ps_ret pe_bl))
          pss_nil))))
      (pss_one (ps_ret pe_bl)))), ?_⟩
    refine ⟨_, rfl, a, kvs, 40, rfl, ha, fun H0 e0 => ⟨_, rfl, ?_⟩⟩
    exact iteT (hQ _ e0)
/-- parts as they come -/
structure PartsW (H : Hp) (n p r z c : V) (dn dp dr dz dc : PyData) : Prop where
  hn : Dq H n dn
  hp : Dq H p dp
  hr : Dq H r dr
  hz : Dq H z dz
  hc : (Dq H c dc ∧ okD dc = true) ∨ ∃ a kvs es, c = .ref a ∧ H a = some (.dT kvs) ∧ dc = .dict es
  on : okD dn = true
  op : okD dp = true
  or : okD dr = true
  oz : okD dz = true
theorem PartsW.ext {H H' : Hp} {n p r z c : V} {dn dp dr dz dc : PyData} (h : PartsW H n p r z c dn dp dr dz dc) (e : Evl.Ex H H') : PartsW H' n p r z c dn dp dr dz dc :=
  { h with hn := h.hn.ext e, hp := h.hp.ext e, hr := h.hr.ext e, hz := h.hz.ext e, hc := h.hc.imp (fun q => ⟨q.1.ext e, q.2⟩) fun ⟨a, kvs, es, h1, h2, h3⟩ => ⟨a, kvs, es, h1, e _ _ h2, h3⟩ }
def kindsD (dp : PyData) : Bool := seqD 4 dp && (itemsOf dp).all typeD
def codeZ (dz dc : PyData) : Bool := match dz with
  | .int sz => codeD sz dc
  | _ => false
/-- the first part that is wrong -/
def badV (n p r z c : V) (dn dp dr dz dc : PyData) : Option V :=
  if nameD dn = true then if kindsD dp = true then if typeD dr = true then if inR (1 + (itemsOf dp).length) 10 dz = true then if codeZ dz dc = true then none else some c else some z else some r else some p else some n
def spInitX (C CI : Addr) : Sp := fun vs H Q E => ∃ (a dx : Addr) (n p r z c : V) (dn dp dr dz dc : PyData), vs = [.ref a, n, p, r, z, c] ∧ H a = some (.ins C dx []) ∧ PartsW H n p r z c dn dp dr dz dc ∧
  (∀ x, badV n p r z c dn dp dr dz dc = some x → ∀ (d : Addr) (H' : Hp), Evl.Ex H H' → H' d = some (.xd [("given", x)]) → E (.ref CI) (some d) H') ∧
  (badV n p r z c dn dp dr dz dc = none → ∀ (H' : Hp) (p' c' : V), (∀ b o, b ≠ a → H b = some o → H' b = some o) → H' a = some (.ins C dx (mfields n p' r z c')) → Dq H' p' (.tuple (itemsOf dp)) → Dq H' c' (.tuple (itemsOf dc)) → Q .non H')
theorem ok_initX (F : FunD K "__init__" "Method.__init__" (defArgs sInit) (defBody sInit) (defScope sInit) [] [] f fd) (D : Defs w K mg) (M : MethF K mg) (XF : ExcF P w K mg base) : FnOk P w K mg base (L2.CX P w) 6 f fd ["self", "name", "params", "result", "size", "code"] (spInitX (He.ga K "Method") (He.ga K "InvalidMethod")) := by
  have T := D.t
  obtain ⟨tP, gP⟩ := D.params4
  obtain ⟨fN, fdN, gN, FN⟩ := D.is_name
  have GN : FnOk P w K mg base CX0 1 fN fdN ["value"] (spD nameD) := okD_name D FN
  have bN : Binds K fdN ["value"] [] := FN.bindsN fun _ _ _ _ _ _ us hl => match us, hl with | [_], _ => rfl
  obtain ⟨fT, fdT, gT, FT⟩ := D.is_type
  have GT : FnOk P w K mg base CX0 2 fT fdT ["value"] (spD typeD) := okD_type D FT
  have bT : Binds K fdT ["value"] [] := FT.bindsN fun _ _ _ _ _ _ us hl => match us, hl with | [_], _ => rfl
  obtain ⟨fS, fdS, gS, FS⟩ := D.is_sequence
  have GS : FnOk P w K mg base CX0 1 fS fdS ["obj", "most"] spSeq := ok_seq FS D
  have bS : Binds K fdS ["obj", "most"] [] := FS.bindsN fun _ _ _ _ _ _ us hl => match us, hl with | [_, _], _ => rfl
  obtain ⟨fZ, fdZ, gZ, FZ⟩ := D.is_size
  have GZ : FnOk P w K mg base CX0 2 fZ fdZ ["value", "params"] spSize := ok_size FZ D
  have bZ : Binds K fdZ ["value", "params"] [] := FZ.bindsN fun _ _ _ _ _ _ us hl => match us, hl with | [_, _], _ => rfl
  obtain ⟨fC, fdC, gC, FC⟩ := D.is_code
  have GC := FnOk.both (ok_code (P := P) (w := w) (base := base) FC D) (ok_codeT (P := P) (w := w) (base := base) FC D)
  obtain ⟨fdE, GE, bE⟩ := XF.fn
  have bC : Binds K fdC ["value", "size"] [] := FC.bindsN fun _ _ _ _ _ _ us hl => match us, hl with | [_, _], _ => rfl
  refine F.ok scInit (fun vs H Q E h => ?_) (fun cdv A outer s H vs Q E hr h => ?_)
  · obtain ⟨a, dx, n, p, r, z, c, dn, dp, dr, dz, dc, rfl, _⟩ := h
    rfl
  · obtain ⟨a, dx, n, p, r, z, c, dn, dp, dr, dz, dc, rfl, ha, ok, hX, hQ⟩ := h
    refine ⟨_, (pss_cons (ps_if (pt_not (pt_val (pe_call GN (hr.mono (by decide)) rfl gN FN.kp bN .nil pass0 (pa_cons (pv 1) pa_nil))))
        (pss_one (ps_raise rfl (takes_of rfl rfl rfl rfl) (pmk_xk XF.g.t XF.g.at_ XF.g.ty GE (hr.mono (by decide)) bE rfl XF.hm (by decide) (pa_cons (pv 1) pa_nil))))
        pss_nil)
      (pss_cons (ps_if (PW.pt (pw_or (pt_not (pt_val (pe_call GS (hr.mono (by decide)) rfl gS FS.kp bS .nil pass0 (pa_cons (pv 2) (pa_cons (pe_glob rfl gP (v := .int 4) ⟨tP, rfl⟩) pa_nil))))) (pw_or1 (pt_not (pt_val (pe_callB (cr_all rfl) rfl T.all boot_all (pa_cons (pe_lc (own := [("kind", 6)]) (g := gName 6) (tt := tYes) rfl scInit.nd (pi_seqq (pv 2)) (blkOk_by (N := nInit) (sc := defScope sInit) (by decide +kernel)) (fun _ _ _ _ _ => (pg_name (i := 6) scInit.nd rfl (Or.inl rfl))) (fun _ _ _ _ _ => pts_nil) (fun _ _ _ _ _ => (pe_call GT (hr.mono (by decide)) rfl gT FT.kp bT .nil pass0 (pa_cons (pv 6) pa_nil)))) pa_nil)))))))
        (pss_one (ps_raise rfl (takes_of rfl rfl rfl rfl) (pmk_xk XF.g.t XF.g.at_ XF.g.ty GE (hr.mono (by decide)) bE rfl XF.hm (by decide) (pa_cons (pv 2) pa_nil))))
        pss_nil)
      (pss_cons (ps_if (pt_not (pt_val (pe_call GT (hr.mono (by decide)) rfl gT FT.kp bT .nil pass0 (pa_cons (pv 3) pa_nil))))
        (pss_one (ps_raise rfl (takes_of rfl rfl rfl rfl) (pmk_xk XF.g.t XF.g.at_ XF.g.ty GE (hr.mono (by decide)) bE rfl XF.hm (by decide) (pa_cons (pv 3) pa_nil))))
        pss_nil)
      (pss_cons (ps_if (pt_not (pt_val (pe_call GZ (hr.mono (by decide)) rfl gZ FZ.kp bZ .nil pass0 (pa_cons (pv 4) (pa_cons (pe_callB call_len rfl T.len boot_len (pa_cons (pv 2) pa_nil)) pa_nil)))))
        (pss_one (ps_raise rfl (takes_of rfl rfl rfl rfl) (pmk_xk XF.g.t XF.g.at_ XF.g.ty GE (hr.mono (by decide)) bE rfl XF.hm (by decide) (pa_cons (pv 4) pa_nil))))
        pss_nil)
      (pss_cons (ps_if (pt_not (pt_val (pe_call GC hr rfl gC FC.kp bC .nil pass0 (pa_cons (pv 5) (pa_cons (pv 4) pa_nil)))))
        (pss_one (ps_raise rfl (takes_of rfl rfl rfl rfl) (pmk_xk XF.g.t XF.g.at_ XF.g.ty GE (hr.mono (by decide)) bE rfl XF.hm (by decide) (pa_cons (pv 5) pa_nil))))
        pss_nil)
      (pss_cons (ps_asg (pe_tup (pa_cons (pv 1) (pa_cons (pe_callTy call_tupD rfl T.tup boot_tuple (pa_cons (pv 2) pa_nil)) (pa_cons (pv 3) pa_nil)))) (pg_tup rfl (pgs_cons (pg_fld (pv 0)) (pgs_cons (pg_fld (pv 0)) (pgs_cons (pg_fld (pv 0)) pgs_nil)))) (hw := no_swap3 rfl))
      (pss_one (ps_asg (pe_tup (pa_cons (pv 4) (pa_cons (pe_callTy call_tupD rfl T.tup boot_tuple (pa_cons (pv 5) pa_nil)) pa_nil))) (pg_tup rfl (pgs_cons (pg_fld (pv 0)) (pgs_cons (pg_fld (pv 0)) pgs_nil))) (hw := no_swap rfl))))))))), ?_⟩
    refine ⟨_, rfl, n, dn, rfl, ok.hn, ok.on, fun H1 e1 => ⟨_, rfl, ?_⟩⟩
    cases hkn : nameD dn with
    | false => exact iteT ⟨_, rfl, rfl, fun dE HE eE hE => hX n (by simp [badV, kindsD, hkn]) dE HE (e1.trans eE) hE⟩
    | true =>
    refine iteF ?_
    have ok1 := ok.ext e1
    refine ⟨_, rfl, p, dp, 4, rfl, ok1.hp, fun H2 e2 => ⟨_, rfl, ?_⟩⟩
    cases hkp : seqD 4 dp with
    | false => exact iteT ⟨_, rfl, rfl, fun dE HE eE hE => hX p (by simp [badV, kindsD, hkn, hkp]) dE HE ((e1.trans e2).trans eE) hE⟩
    | true =>
    refine iteF ?_
    have ok2 := ok1.ext e2
    obtain ⟨pa, pxs, rfl, hpa, hpall, hpl⟩ := seq_sq (K := K) ok2.hp hkp
    have hplen := DqAll.length hpall
    have hp0 := hpa
    rcases hp0 with hp0 | hp0
    case' inl =>
      refine ⟨_, rfl, pa, rfl, .inl ⟨⟨_, SqL.of hp0⟩, fun L hL => ?_⟩⟩
      have wJ := (walk_list (K := K) (a := pa) (xs := pxs)).mono (G' := fun H' => H' pa = H2 pa) (fun H' e => SqL.of (e.trans hp0)) fun _ _ _ _ _ _ y => y
    case' inr =>
      refine ⟨_, rfl, pa, rfl, .inr ⟨⟨_, SqT.of hp0⟩, fun L hL => ?_⟩⟩
      have wJ := (walk_tup (K := K) (a := pa) (xs := pxs)).mono (G' := fun H' => H' pa = H2 pa) (fun H' e => SqT.of (e.trans hp0)) fun _ _ _ _ _ _ y => y
    all_goals
      refine lc_map wJ hL (fun H' e => ex_or e hpa) (fun j => .bl (typeD ((itemsOf dp).getD j .none))) (by omega) (fun j H3 x H4 _ _ y => by rw [y.1]; exact Evl.Ex.refl _) ?_ ?_
      · rintro j x H3 H4 hj e3 _ ⟨rfl, hx⟩ Qt hQt
        obtain ⟨dj, hdj, hxj⟩ := hpall.get hx
        have egd : (itemsOf dp).getD j .none = dj := by rw [List.getD_eq_getElem?_getD, hdj]; rfl
        rw [egd] at hQt
        exact ⟨rfl, _, rfl, x, dj, rfl, hxj.ext e3, okAll_mem (okAll_items ok.op) dj (List.mem_of_getElem? hdj), hQt⟩
      intro H3 e3 hL3
      refine ⟨L, (List.range pxs.length).map fun j => typeD ((itemsOf dp).getD j .none), rfl, SqL.of (by rw [hL3, List.map_map]; rfl), ?_⟩
      rw [hplen, map_range_get (itemsOf dp) typeD _ (fun i e he => by rw [List.getD_eq_getElem?_getD, he]; rfl), List.all_map, show (id ∘ typeD) = typeD from rfl]
      have e13 := (e1.trans e2).trans e3
      cases hkt : (itemsOf dp).all typeD with
      | false => exact ⟨_, rfl, iteT ⟨_, rfl, rfl, fun dE HE eE hE => hX (.ref pa) (by simp [badV, kindsD, hkn, hkp, hkt]) dE HE (e13.trans eE) hE⟩⟩
      | true =>
      refine ⟨_, rfl, iteF ?_⟩
      have ok3 := ok2.ext e3
      refine ⟨_, rfl, r, dr, rfl, ok3.hr, ok.or, fun H4 e4 => ⟨_, rfl, ?_⟩⟩
      have e14 := e13.trans e4
      cases hkr : typeD dr with
      | false => exact iteT ⟨_, rfl, rfl, fun dE HE eE hE => hX r (by simp [badV, kindsD, hkn, hkp, hkt, hkr]) dE HE (e14.trans eE) hE⟩
      | true =>
      refine iteF ?_
      have ok4 := ok3.ext e4
      have hpa4 : H4 pa = some (.lst pxs) ∨ H4 pa = some (.tup pxs) := by rw [ex_or (e3.trans e4) hpa]; exact hpa
      refine ⟨_, rfl, _, rfl, _, _, rfl, len_of hpa4, z, dz, _, rfl, ok4.hz, ok.oz, fun H5 e5 => ⟨_, rfl, ?_⟩⟩
      rw [hplen]
      have e15 := e14.trans e5
      cases hkz : inR (1 + (itemsOf dp).length) 10 dz with
      | false => exact iteT ⟨_, rfl, rfl, fun dE HE eE hE => hX z (by simp [badV, kindsD, hkn, hkp, hkt, hkr, hkz]) dE HE (e15.trans eE) hE⟩
      | true =>
      refine iteF ?_
      have ok5 := ok4.ext e5
      obtain ⟨sz, rfl⟩ : ∃ sz, dz = .int sz := by
        cases dz with
        | int sz => exact ⟨_, rfl⟩
        | _ => cases hkz
      obtain rfl : z = .int sz := ok.hz.intI
      rcases ok5.hc with ⟨hcq, hco⟩ | ⟨ca, kvs, es, rfl, hct, rfl⟩
      case' inr =>
        exact ⟨_, rfl, _, rfl, .inr ⟨ca, kvs, sz, rfl, hct, fun H6 e6 => ⟨_, rfl, iteT ⟨_, rfl, rfl, fun dE HE eE hE => hX (.ref ca) (by simp [badV, kindsD, hkn, hkp, hkt, hkr, hkz, show codeZ (.int sz) (.dict es) = false from rfl]) dE HE ((e15.trans e6).trans eE) hE⟩⟩⟩⟩
      refine ⟨_, rfl, _, rfl, .inl ⟨c, dc, sz, rfl, hcq, hco, fun H6 e6 => ⟨_, rfl, ?_⟩⟩⟩
      have e06 := e15.trans e6
      cases hkcc : codeD sz dc with
      | false => exact iteT ⟨_, rfl, rfl, fun dE HE eE hE => hX c (by simp [badV, kindsD, hkn, hkp, hkt, hkr, hkz, show codeZ (.int sz) dc = false from hkcc]) dE HE (e06.trans eE) hE⟩
      | true =>
      refine iteF ?_
      have okw := ok.ext e06
      have ok6 : PartsOk H6 n (.ref pa) r (.int sz) c dn dp dr sz dc := ⟨okw.hn, okw.hp, okw.hr, rfl, hcq.ext e6, okw.on, okw.op, okw.or, hco, hkn, hkp, hkt, hkr, hkz, hkcc⟩
      have ha6 := e06 _ _ ha
      have hQ0 := hQ (by simp [badV, kindsD, hkn, hkp, hkt, hkr, hkz, show codeZ (.int sz) dc = true from hkcc])
      clear e1 e2 e3 e4 e5 e6 ok1 ok2 ok3 ok4 ok5 hpall hpa4 hL hL3 wJ hp0 hpa e13 e14 e15 okw
      have hkc : seqD 40 dc = true := by
        have := hkcc
        unfold codeD at this
        simp only [Bool.and_eq_true] at this
        exact this.1.1.1
      have hM := M
      refine ⟨_, rfl, _, rfl, _, dp, _, rfl, ok6.hp, hkp, fun H7 p' e7 hp7 => ⟨_, rfl, le_line (by simp), fun t1 ht1 => ?_⟩⟩
      have ok7 := ok6.ext e7
      have e8 := Evl.Ex.new (o := .tup [n, p', r]) ht1
      have ha8 := e8 _ _ (e7 _ _ ha6)
      have ok8 := ok7.ext e8
      have hp8 := hp7.ext e8
      have e08 := (e06.trans e7).trans e8
      refine ⟨t1, _, rfl, SqT.of upd_same, rfl, _, _, rfl, ?_⟩
      generalize (upd H7 t1 (.tup [n, p', r])) = H8 at ha8 ok8 hp8 e08
      refine ⟨_, rfl, a, _, dx, [], rfl, ha8, M.cl, M.n1, by decide, _, _, rfl, ?_⟩
      refine ⟨_, rfl, a, _, dx, [("own_name", n)], rfl, upd_same, M.cl, M.n2, by simp, _, _, rfl, ?_⟩
      refine ⟨_, rfl, a, _, dx, [("own_name", n), ("own_params", p')], rfl, upd_same, M.cl, M.n3, by simp, rfl, ?_⟩
      have k9 : ∀ b o, b ≠ a → H8 b = some o → (upd (upd (upd H8 a (.ins (He.ga K "Method") dx (putF "own_name" n []))) a (.ins (He.ga K "Method") dx (putF "own_params" p' [("own_name", n)]))) a (.ins (He.ga K "Method") dx (putF "own_result" r [("own_name", n), ("own_params", p')]))) b = some o := fun b o hb e => by
        rw [upd_ne hb, upd_ne hb, upd_ne hb]; exact e
      have ha9 := upd_same (H := upd (upd H8 a (.ins (He.ga K "Method") dx (putF "own_name" n []))) a (.ins (He.ga K "Method") dx (putF "own_params" p' [("own_name", n)]))) (a := a) (o := .ins (He.ga K "Method") dx (putF "own_result" r [("own_name", n), ("own_params", p')]))
      generalize (upd (upd (upd H8 a (.ins (He.ga K "Method") dx (putF "own_name" n []))) a (.ins (He.ga K "Method") dx (putF "own_params" p' [("own_name", n)]))) a (.ins (He.ga K "Method") dx (putF "own_result" r [("own_name", n), ("own_params", p')]))) = H9 at k9 ha9
      have hc9 : Dq H9 c dc := Dq.fr ha8 k9 ok8.hc
      have hp9 : Dq H9 p' (.tuple (itemsOf dp)) := Dq.fr ha8 k9 hp8
      refine ⟨_, rfl, _, rfl, _, dc, _, rfl, hc9, hkc, fun H10 c' e10 hc10 => ⟨le_line (by simp), fun t2 ht2 => ?_⟩⟩
      have e11 := Evl.Ex.new (o := .tup [.int sz, c']) ht2
      have ha11 := e11 _ _ (e10 _ _ ha9)
      have hp11 := (hp9.ext e10).ext e11
      have hc11 := hc10.ext e11
      have e911 := e10.trans e11
      refine ⟨t2, _, rfl, SqT.of upd_same, rfl, _, _, rfl, ?_⟩
      generalize (upd H10 t2 (.tup [.int sz, c'])) = H11 at ha11 hp11 hc11 e911
      refine ⟨_, rfl, a, _, dx, [("own_name", n), ("own_params", p'), ("own_result", r)], rfl, ha11, M.cl, M.n4, by simp, _, _, rfl, ?_⟩
      refine ⟨_, rfl, a, _, dx, [("own_name", n), ("own_params", p'), ("own_result", r), ("own_size", .int sz)], rfl, upd_same, M.cl, M.n5, by simp, rfl, ?_⟩
      have k12 : ∀ b o, b ≠ a → H11 b = some o → (upd (upd H11 a (.ins (He.ga K "Method") dx (putF "own_size" (.int sz) [("own_name", n), ("own_params", p'), ("own_result", r)]))) a (.ins (He.ga K "Method") dx (putF "own_code" c' [("own_name", n), ("own_params", p'), ("own_result", r), ("own_size", .int sz)]))) b = some o := fun b o hb e => by
        rw [upd_ne hb, upd_ne hb]; exact e
      refine hQ0 _ p' c' (fun b o hb e => k12 b o hb (e911 _ _ (k9 b o hb (e08 _ _ e)))) upd_same (Dq.fr ha11 k12 hp11) (Dq.fr ha11 k12 hc11)
end
end K07
set_option Elab.async false
set_option linter.all false
set_option maxRecDepth 100000
set_option maxHeartbeats 0
namespace K07
open PySem PySem.Spec PyProof.Rows L2 EX2
section
variable {H : Hp} {p : Addr} {l : List V}
mutual
theorem dq_rmL (hp : H p = some (.lst l)) : ∀ {x : V} {d : PyData}, Dq H x d → noL d = true → Dq (rm p H) x d
  | _, _, .non, _ => .non
  | _, _, .bl b, _ => .bl b
  | _, _, .int i, _ => .int i
  | _, _, .str x, _ => .str x
  | _, _, .lst q h, n => by cases n
  | _, _, .tup (a := a) q h, n => .tup (by rw [rm_ne (ne_of q hp (fun z => nomatch z))]; exact q) (dqAll_rmL hp h n)
  | _, _, .dk q h, n => by cases n
theorem dqAll_rmL (hp : H p = some (.lst l)) : ∀ {xs : List V} {ds : List PyData}, DqAll H xs ds → noLs ds = true → DqAll (rm p H) xs ds
  | _, _, .nil, _ => .nil
  | _, _, .cons h t, n => by
    simp only [noLs, Bool.and_eq_true] at n
    exact .cons (dq_rmL hp h n.1) (dqAll_rmL hp t n.2)
end
end
theorem PartsOk.w {H : Hp} {n p r z c : V} {dn dp dr dc : PyData} {sz : Int} (h : PartsOk H n p r z c dn dp dr sz dc) : PartsW H n p r z c dn dp dr (.int sz) dc ∧ badV n p r z c dn dp dr (.int sz) dc = none :=
  ⟨⟨h.hn, h.hp, h.hr, by rw [h.hz]; exact .int sz, .inl ⟨h.hc, h.oc⟩, h.on, h.op, h.or, rfl⟩, by simp [badV, kindsD, h.kn, h.kp, h.kt, h.kr, h.kz, show codeZ (.int sz) dc = true from h.kc]⟩
theorem spInit_X {C CI : Addr} : ∀ vs H Q E, spInit C vs H Q E → spInitX C CI vs H Q E := by
  rintro vs H Q E ⟨a, dx, n, p, r, z, c, dn, dp, dr, dc, sz, rfl, ha, ok, hQ⟩
  exact ⟨a, dx, n, p, r, z, c, dn, dp, dr, .int sz, dc, rfl, ha, ok.w.1, (fun x h => by rw [ok.w.2] at h; cases h), fun _ => hQ⟩
def nm3 : List Str := ["a", "b", "c"]
/-- what makes a drawer ready -/
inductive RdyP (m : Int) : PyData → Prop
  | new (r : Int) (c : Str) (r0 : 0 ≤ r) (r1 : r < m) (hc : c ∈ nm4) : RdyP m (.tuple [.str "new", .int r, .str c])
  | array (r : Int) (c : Str) (r0 : 0 ≤ r) (r1 : r < m) (hc : c ∈ nm4) : RdyP m (.tuple [.str "array", .int r, .str c, .int 2])
  | null (r : Int) (r0 : 0 ≤ r) (r1 : r < m) : RdyP m (.tuple [.str "null", .int r])
theorem RdyP.ins {m n : Int} {d : PyData} (h : RdyP m d) : InsP m n d := by
  cases h with
  | new r c r0 r1 hc => exact .new r c r0 r1 hc
  | array r c r0 r1 hc => exact .array r c 2 r0 r1 hc (by decide) (by decide)
  | null r r0 r1 => exact .null r r0 r1
def spReady : Sp := fun vs H Q _ => ∃ (p : Addr) (m g : Int), vs = [.ref p, .int m, .int g] ∧ Sc p H ∧ 0 ≤ g ∧ g ≤ m ∧ m ≤ 10 ∧
  ∀ (L : Addr) (xs : List V) (ds : List PyData) (H' : Hp), Lx p H H' → H L = none → H' L = some (.lst xs) → DzAll p H' xs ds → ds.length = (m - g).toNat → (∀ d ∈ ds, RdyP m d) → Q (.ref L) H'
section
variable {P : Program} {w : World} {K : PySem.W.Frag} {mg : Str → Option Value} {base : Heap} {f : Addr} {fd : FuncData}
abbrev nready : List Str := ["_law_source_here", "_law_size", "_law_given", "_law_found", "_law_drawer", "_law_name"]
theorem scready : FnScope nready ["_law_source_here", "_law_size", "_law_given"] (defScope sready) := ⟨rfl, rfl, rfl, by decide +kernel, rfl, by decide +kernel, by decide +kernel⟩
theorem ok_ready (F : FnP K "_law_ready" sready f fd) (D : Defs w K mg) : FnOk P w K mg base CX0 3 f fd ["_law_source_here", "_law_size", "_law_given"] spReady := by
  have T := D.t
  obtain ⟨fD, fdD, gD, FD⟩ := D.draw
  have GD : FnOk P w K mg base CX0 1 fD fdD ["_law_source_here", "_law_amount"] spDr := okL_draw FD D
  have bD : Binds K fdD ["_law_source_here", "_law_amount"] [] := FD.bindsN fun _ _ _ _ _ _ us hl => match us, hl with | [_, _], _ => rfl
  obtain ⟨fP, fdP, gP, FP⟩ := D.pick
  have GP : FnOk P w K mg base CX0 2 fP fdP ["_law_source_here", "_law_items"] spPick := ok_pick FP D
  have bP : Binds K fdP ["_law_source_here", "_law_items"] [] := FP.bindsN fun _ _ _ _ _ _ us hl => match us, hl with | [_, _], _ => rfl
  refine F.ok scready (fun vs H Q E h => ?_) (fun cdv A outer s H vs Q E hr h => ?_)
  · obtain ⟨p, m, g, rfl, _⟩ := h
    rfl
  · obtain ⟨p, m, g, rfl, hs, g0, gm, m1, hQ⟩ := h
    refine ⟨_, PSs.nox (pss_cons (ps_set (i := 3) scready.nd rfl (Or.inl rfl) (pe_lst pa_nil))
      (pss_cons (ps_for PassesOwn.never rfl (pi_range2 rfl T.rng (pa_cons (pv 2) (pa_cons (pv 1) pa_nil))) (pg_name (i := 4) scready.nd rfl (Or.inl rfl))
        (pss_cons (ps_set (i := 5) scready.nd rfl (Or.inl rfl) (pe_call GP hr rfl gP FP.kp bP .nil pass0 (pa_cons (pv 0) (pa_cons (pe_lst (pa_cons pe_str (pa_cons pe_str (pa_cons pe_str pa_nil)))) pa_nil))))
        (pss_one (ps_expr (pe_bm PySem.F.plainAttrs_list PySem.F.slot_list_append PySem.F.type_list_append mt_append (pv 3) (pa_cons (pe_ix ix_list (pe_lst (pa_cons (pe_tup (pa_cons pe_str (pa_cons (pv 4) (pa_cons (pv 5) pa_nil)))) (pa_cons (pe_tup (pa_cons pe_str (pa_cons (pv 4) (pa_cons (pv 5) (pa_cons pe_int pa_nil))))) (pa_cons (pe_tup (pa_cons pe_str (pa_cons (pv 4) pa_nil))) pa_nil)))) (pe_call GD (hr.mono (by decide)) rfl gD FD.kp bD .nil pass0 (pa_cons (pv 0) (pa_cons pe_int pa_nil))) (fun _ _ => rfl)) pa_nil))))))
      (pss_one (ps_ret (pv 3))))), ?_⟩
    refine ⟨Nat.zero_le _, fun L hL => ?_⟩
    have npL := hs.ne hL
    have eL := Evl.Ex.new (o := .lst []) hL
    refine ⟨_, rfl, _, rfl, g, m, rfl, ⟨by omega, by omega, by omega, by omega⟩, ?_⟩
    refine for_it walk_range (fun j σ H1 => Lx p H H1 ∧ (∃ xs ds, H1 L = some (.lst xs) ∧ DzAll p H1 xs ds ∧ ds.length = j ∧ (∀ d ∈ ds, RdyP m d)) ∧ ∃ v4 v5, σ = [some (.ref p), some (.int m), some (.int g), some (.ref L), v4, v5])
      ⟨.of hs eL, ⟨[], [], upd_same, .nil, rfl, fun d h => nomatch h⟩, none, none, rfl⟩ (fun _ _ _ _ _ => trivial) ?_ ?_
    · rintro j x σ H1 H2 hj ⟨l1, ⟨xs, ds, hL1, hall, hlen, hrd⟩, v4, v5, rfl⟩ ⟨rfl, rfl⟩
      have hr0 : 0 ≤ g + (j : Int) := by omega
      have hr1 : g + (j : Int) < m := by omega
      refine ⟨_, rfl, le_line (by simp), fun b1 g1 => ⟨p, b1, _, rfl, l1.sc.ex (Evl.Ex.new g1), l1.sc.ne g1, upd_same, by simp, by simp, fun x H3 hx lx => ?_⟩⟩
      have lx3 : Lx p H2 H3 := (Lx.of l1.sc (Evl.Ex.new g1)).trans lx
      obtain ⟨c, hc, rfl⟩ : ∃ c, c ∈ nm4 ∧ x = .str c := by
        simp only [List.mem_cons, List.not_mem_nil, or_false] at hx
        rcases hx with rfl | rfl | rfl <;> exact ⟨_, by decide +kernel, rfl⟩
      refine ⟨_, rfl, .inl ⟨rfl, _, SqL.of (lx3.at hL1 npL)⟩, ?_⟩
      have z0 : DzAll p H3 [] [] := .nil
      refine ⟨_, rfl, _, rfl, le_line (by simp), fun a1 h1 => ?_⟩
      have lA := lx3.then (Evl.Ex.new (o := .tup [.str "new", .int (g + (j : Int)), .str c]) h1)
      have z1 : DzAll p (upd H3 a1 (.tup [.str "new", .int (g + (j : Int)), .str c])) [.ref a1] [.tuple [.str "new", .int (g + (j : Int)), .str c]] := .cons (Dz.tupN lx3.sc h1 (.cons (.str _) (.cons (.int _) (.cons (.str _) .nil)))) .nil
      refine ⟨_, rfl, _, rfl, le_line (by simp), fun a2 h2 => ?_⟩
      have f2 := Evl.Ex.new (o := .tup [.str "array", .int (g + (j : Int)), .str c, .int 2]) h2
      have lB := lA.then f2
      have z2 := DqAll.app (z1.lx (.of lA.sc f2)) (.cons (Dz.tupN lA.sc h2 (.cons (.str "array") (.cons (.int (g + (j : Int))) (.cons (.str c) (.cons (.int 2) .nil))))) .nil)
      refine ⟨_, rfl, le_line (by simp), fun a3 h3 => ?_⟩
      have f3 := Evl.Ex.new (o := .tup [.str "null", .int (g + (j : Int))]) h3
      have lC := lB.then f3
      have z3 := DqAll.app (DzAll.lx z2 (.of lB.sc f3)) (.cons (Dz.tupN lB.sc h3 (.cons (.str "null") (.cons (.int (g + (j : Int))) .nil))) .nil)
      refine ⟨le_line (by simp), fun b2 g2 => ?_⟩
      have f4 := Evl.Ex.new (o := .lst [.ref a1, .ref a2, .ref a3]) g2
      have lD := lC.then f4
      have z4 := DzAll.lx z3 (.of lC.sc f4)
      refine ⟨_, rfl, p, _, rfl, lD.sc, by decide, by decide, fun k H5 k0 k1 l5 => ?_⟩
      have hb2 := l5.at (upd_same (a := b2) (o := .lst [.ref a1, .ref a2, .ref a3])) (lC.sc.ne g2)
      have z5 := DzAll.lx z4 l5
      obtain ⟨i, rfl⟩ := Int.eq_ofNat_of_zero_le k0
      have hi : i < 3 := by omega
      obtain ⟨di, hdi, hxi⟩ := z5.get (List.getElem?_eq_getElem (l := [V.ref a1, .ref a2, .ref a3]) (i := i) hi)
      have hdr : RdyP m di ∧ noL di = true := by
        have hm := List.mem_of_getElem? hdi
        have hm : di ∈ [PyData.tuple [.str "new", .int (g + (j : Int)), .str c], .tuple [.str "array", .int (g + (j : Int)), .str c, .int 2], .tuple [.str "null", .int (g + (j : Int))]] := hm
        simp only [List.mem_cons, List.not_mem_nil, or_false] at hm
        rcases hm with rfl | rfl | rfl
        · exact ⟨.new _ c hr0 hr1 hc, rfl⟩
        · exact ⟨.array _ c hr0 hr1 hc, rfl⟩
        · exact ⟨.null _ hr0 hr1, rfl⟩
      have l25 : Lx p H2 H5 := lD.trans l5
      have hL5 := l25.at hL1 npL
      have hno : noLs ds = true := noLs_of fun d hd => by cases hrd d hd <;> rfl
      refine ⟨b2, _, _, _, rfl, rfl, SqL.of hb2, atI_nat (List.getElem?_eq_getElem hi), L, xs, _, rfl, rfl, hL5, ?_, ?_⟩
      · rw [DqAll.length hall, hlen]
        exact Nat.lt_of_lt_of_le (show j < 1000 by omega) (le_line (Nat.le_refl _))
      · refine ⟨(l1.trans l25).mut npL hL, ⟨xs ++ [_], ds ++ [di], upd_same, DqAll.app ((hall.lx l25).mutD hL5 npL hno) (.cons (Dz.mutD hL5 npL hxi hdr.2) .nil), by rw [List.length_append, hlen]; rfl, fun d hd => ?_⟩, _, _, rfl⟩
        rcases List.mem_append.mp hd with q | q
        · exact hrd d q
        · rw [List.mem_singleton] at q; subst q; exact hdr.1
    · rintro σ H1 ⟨l1, ⟨xs, ds, hL1, hall, hlen, hrd⟩, v4, v5, rfl⟩
      exact ⟨_, rfl, hQ L xs ds H1 l1 hL hL1 hall hlen hrd⟩
theorem DqAll.setA {H : Hp} {xs : List V} {ds : List PyData} (h : DqAll H xs ds) {x : V} {d : PyData} (hx : Dq H x d) : ∀ (i : Nat), DqAll H (xs.set i x) (ds.set i d) := by
  induction xs generalizing ds with
  | nil => cases h; intro i; exact .nil
  | cons y ys ih =>
    cases h with
    | cons h t =>
      intro i
      cases i with
      | zero => exact .cons hx t
      | succ i => exact .cons h (ih t i)
/-- a method that is made -/
structure MethP (ps : List PyData) (r : Str) (sz : Int) (cd : List PyData) : Prop where
  pl : ps.length ≤ 2
  pt : ∀ k ∈ ps, ∃ z ∈ tyS, k = .str z
  rt : r ∈ tyS
  s0 : 1 + (ps.length : Int) ≤ sz
  s1 : sz ≤ 6
  c0 : 0 < cd.length
  c1 : cd.length ≤ 15
  ci : ∀ d ∈ cd, InsP sz cd.length d
theorem MethP.parts {H : Hp} {p c : V} {ps cd : List PyData} {r : Str} {sz : Int} {dp dc : PyData} (h : MethP ps r sz cd) (hp : Dq H p dp) (hc : Dq H c dc) (ip : itemsOf dp = ps) (ic : itemsOf dc = cd) (kp : seqD 4 dp = true) (kc : seqD 40 dc = true) (op : okD dp = true) (oc : okD dc = true) (n : Str) (hn : isNm n = true) (hn2 : n.length ≤ 10 ∧ PyData.strOk n = true) :
    PartsOk H (.str n) p (.str r) (.int sz) c (.str n) dp (.str r) sz dc where
  hn := .str n
  hp := hp
  hr := .str r
  hz := rfl
  hc := hc
  on := ok_str hn2
  op := op
  or := ok_str ⟨by have := (tyS_ok r h.rt).2.1; omega, (tyS_ok r h.rt).2.2⟩
  oc := oc
  kn := hn
  kp := kp
  kt := by rw [ip, List.all_eq_true]; intro k hk; obtain ⟨z, hz, rfl⟩ := h.pt k hk; exact (tyS_ok z hz).1
  kr := (tyS_ok r h.rt).1
  kz := by
    rw [ip, inR_int]
    have h0 := h.s0
    have h1 := h.s1
    simp
    omega
  kc := by
    have c0 := h.c0
    have c1 := h.c1
    unfold codeD
    rw [kc, ic, decide_eq_true (by omega), Bool.true_and, Bool.true_and, Bool.and_eq_true]
    refine ⟨List.all_eq_true.mpr fun d hd => (h.ci d hd).ins (by have := h.s1; omega) (by omega), List.all_eq_true.mpr fun d hd => ?_⟩
    unfold codeOk
    rw [Bool.and_eq_true]
    refine ⟨List.all_eq_true.mpr fun e he => ?_, List.all_eq_true.mpr fun e he => ?_⟩
    · obtain ⟨i, rfl, i0, i1⟩ := (h.ci d hd).draw e he
      exact decide_eq_true i1
    · obtain ⟨i, rfl, i0, i1⟩ := (h.ci d hd).tgt e he
      exact decide_eq_true i1
def spMethod (C : Addr) : Sp := fun vs H Q _ => ∃ (p : Addr) (b : Bool), vs = [.ref p, .bl b] ∧ Sc p H ∧
  ∀ (m : V) (ps : List PyData) (r : Str) (sz : Int) (cd : List PyData) (H' : Hp), Lx p H H' → MethAt C (rm p H') m (.str "m") ps (.str r) (.int sz) cd → MethP ps r sz cd → Q m H'
abbrev nmethod : List Str := ["_law_source_here", "_law_is_ready", "_law_params", "_law_size", "_law_first", "_law_length", "_law_code", "_law_part"]
theorem scmethod : FnScope nmethod ["_law_source_here", "_law_is_ready"] (defScope smethod) := ⟨rfl, rfl, rfl, by decide +kernel, rfl, by decide +kernel, by decide +kernel⟩
theorem ok_method (F : FnP K "_law_method" smethod f fd) (D : Defs w K mg) (M : MethF K mg) (XF : ExcF P w K mg base) : FnOk P w K mg base CX0 8 f fd ["_law_source_here", "_law_is_ready"] (spMethod (He.ga K "Method")) := by
  have T := D.t
  obtain ⟨fD, fdD, gD, FD⟩ := D.draw
  have GD : FnOk P w K mg base CX0 1 fD fdD ["_law_source_here", "_law_amount"] spDr := okL_draw FD D
  have bD : Binds K fdD ["_law_source_here", "_law_amount"] [] := FD.bindsN fun _ _ _ _ _ _ us hl => match us, hl with | [_, _], _ => rfl
  obtain ⟨fP, fdP, gP, FP⟩ := D.pick
  have GP : FnOk P w K mg base CX0 2 fP fdP ["_law_source_here", "_law_items"] spPick := ok_pick FP D
  have bP : Binds K fdP ["_law_source_here", "_law_items"] [] := FP.bindsN fun _ _ _ _ _ _ us hl => match us, hl with | [_, _], _ => rfl
  obtain ⟨fT, fdT, gT, FT⟩ := D.typeL
  have GT : FnOk P w K mg base CX0 3 fT fdT ["_law_source_here"] spTy := ok_typeL FT D
  have bT : Binds K fdT ["_law_source_here"] [] := FT.bindsN fun _ _ _ _ _ _ us hl => match us, hl with | [_], _ => rfl
  obtain ⟨fR, fdR, gR, FR⟩ := D.ready
  have GR : FnOk P w K mg base CX0 3 fR fdR ["_law_source_here", "_law_size", "_law_given"] spReady := ok_ready FR D
  have bR : Binds K fdR ["_law_source_here", "_law_size", "_law_given"] [] := FR.bindsN fun _ _ _ _ _ _ us hl => match us, hl with | [_, _, _], _ => rfl
  obtain ⟨fM, fdM, gM, FM⟩ := D.made
  have GM : FnOk P w K mg base CX0 5 fM fdM ["_law_source_here", "_law_size", "_law_length"] spMade := ok_made FM D
  have bM : Binds K fdM ["_law_source_here", "_law_size", "_law_length"] [] := FM.bindsN fun _ _ _ _ _ _ us hl => match us, hl with | [_, _, _], _ => rfl
  obtain ⟨fdI, FI⟩ := M.init
  have GI : FnOk P w K mg base (L2.CX P w) 6 _ fdI ["self", "name", "params", "result", "size", "code"] (spInit (He.ga K "Method")) := (ok_initX FI D M XF).imp spInit_X
  have bI : Binds K fdI ["self", "name", "params", "result", "size", "code"] [] := FI.bindsN fun _ _ _ _ _ _ us hl => match us, hl with | [_, _, _, _, _, _], _ => rfl
  refine F.ok scmethod (fun vs H Q E h => ?_) (fun cdv A outer s H vs Q E hr h => ?_)
  · obtain ⟨p, b, rfl, _⟩ := h
    rfl
  · obtain ⟨p, b, rfl, hs, hQ⟩ := h
    refine ⟨_, PSs.nox (pss_cons (ps_set (i := 2) scmethod.nd rfl (Or.inl rfl) (pe_callTy call_tuple_of rfl T.tup boot_tuple (pa_cons (pe_lc (own := [("_law_part", 7)]) (g := gName 7) (tt := tYes) rfl scmethod.nd (pi_range1 rfl T.rng (pa_cons (pe_call GD (hr.mono (by decide)) rfl gD FD.kp bD .nil pass0 (pa_cons (pv 0) (pa_cons pe_int pa_nil))) pa_nil)) (blkOk_by (N := nmethod) (sc := defScope smethod) (by decide +kernel)) (fun _ _ _ _ _ => (pg_name (i := 7) scmethod.nd rfl (Or.inl rfl))) (fun _ _ _ _ _ => pts_nil) (fun _ _ _ _ _ => (pe_call GT (hr.mono (by decide)) rfl gT FT.kp bT .nil pass0 (pa_cons (pv 0) pa_nil)))) pa_nil)))
      (pss_cons (ps_set (i := 3) scmethod.nd rfl (Or.inr rfl) (pe_op op_add (pe_op op_add pe_int (pe_callB call_len rfl T.len boot_len (pa_cons (pv 2) pa_nil))) (pe_call GD (hr.mono (by decide)) rfl gD FD.kp bD .nil pass0 (pa_cons (pv 0) (pa_cons pe_int pa_nil)))))
      (Evl.pss_cut (ps_set (i := 4) scmethod.nd rfl (Or.inl rfl) (pe_ifExp (pt_val (pv 1)) (pe_call GR (hr.mono (by decide)) rfl gR FR.kp bR .nil pass0 (pa_cons (pv 0) (pa_cons (pv 3) (pa_cons (pe_op op_add pe_int (pe_callB call_len rfl T.len boot_len (pa_cons (pv 2) pa_nil))) pa_nil)))) (pe_lst pa_nil)))
      (Evl.pss_cut (ps_set (i := 5) scmethod.nd rfl (Or.inr rfl) (pe_op op_add (pe_op op_add (pe_callB call_len rfl T.len boot_len (pa_cons (pv 4) pa_nil)) pe_int) (pe_call GD (hr.mono (by decide)) rfl gD FD.kp bD .nil pass0 (pa_cons (pv 0) (pa_cons pe_int pa_nil)))))
      (pss_cons (ps_set (i := 6) scmethod.nd rfl (Or.inl rfl) (pe_op op_cat (pv 4) (pe_lc (own := [("_law_part", 7)]) (g := gName 7) (tt := tYes) rfl scmethod.nd (pi_range1 rfl T.rng (pa_cons (pe_op op_sub (pv 5) (pe_callB call_len rfl T.len boot_len (pa_cons (pv 4) pa_nil))) pa_nil)) (blkOk_by (N := nmethod) (sc := defScope smethod) (by decide +kernel)) (fun _ _ _ _ _ => (pg_name (i := 7) scmethod.nd rfl (Or.inl rfl))) (fun _ _ _ _ _ => pts_nil) (fun _ _ _ _ _ => (pe_call GM (hr.mono (by decide)) rfl gM FM.kp bM .nil pass0 (pa_cons (pv 0) (pa_cons (pv 3) (pa_cons (pv 5) pa_nil))))))))
      (Evl.pss_cut (ps_if (PW.pt (pw_and (pt_val (pv 1)) (pw_and1 (pt_cmpR op_gt (pe_call GD (hr.mono (by decide)) rfl gD FD.kp bD .nil pass0 (pa_cons (pv 0) (pa_cons pe_int pa_nil))) pe_int (nomark _)))))
        (pss_one (ps_asg (pe_call GP (hr.mono (by decide)) rfl gP FP.kp bP .nil pass0 (pa_cons (pv 0) (pa_cons (pe_lst (pa_cons (pe_tup (pa_cons pe_str (pa_cons (pe_call GD (hr.mono (by decide)) rfl gD FD.kp bD .nil pass0 (pa_cons (pv 0) (pa_cons (pv 3) pa_nil))) pa_nil))) (pa_cons (pe_tup (pa_cons pe_str (pa_cons (pe_call GD (hr.mono (by decide)) rfl gD FD.kp bD .nil pass0 (pa_cons (pv 0) (pa_cons (pv 5) pa_nil))) pa_nil))) pa_nil))) pa_nil))) (pg_sub (pv 6) (pe_un un_neg pe_int) set_list)))
        pss_nil)
      (pss_one (ps_ret (pe_make M.mkr GI hr rfl M.hm bI .nil passL (pa_cons pe_str (pa_cons (pv 2) (pa_cons (pe_call GT (hr.mono (by decide)) rfl gT FT.kp bT .nil pass0 (pa_cons (pv 0) pa_nil)) (pa_cons (pv 3) (pa_cons (pv 6) pa_nil)))))))))))))), ?_⟩
    -- the parameters
    refine ⟨_, rfl, p, _, rfl, hs, by decide, by decide, fun k H1 k0 k1 lx1 => ?_⟩
    refine ⟨_, rfl, by omega, by omega, fun L1 hL1 => ?_⟩
    refine lc_lx walk_range lx1.sc hL1 (fun _ _ => trivial) (fun _ d => ∃ z ∈ tyS, d = .str z) (by omega) (fun j H2 x H3 y => y.1) ?_ ?_
    · rintro j x H2 hj lx2 _ Qt hQt
      exact ⟨rfl, _, rfl, p, rfl, lx2.sc, fun z H3 hz lx3 => hQt _ (.str z) H3 lx3 (.str z) rfl ⟨z, hz, rfl⟩⟩
    intro H2 xs1 ps lx2 hL1s hps hpl _ hpR
    refine ⟨L1, xs1, rfl, .inl ⟨SqL.of hL1s, fun a1 ha1 => ?_⟩⟩
    have e3 := Evl.Ex.new (o := .tup xs1) ha1
    have lxA := (lx1.trans lx2).then e3
    have hpt : ∀ k ∈ ps, ∃ z ∈ tyS, k = .str z := mem_of_get (fun i d h => hpR i d h)
    have hpl2 : ps.length ≤ 2 := by omega
    have hxl : xs1.length = ps.length := DqAll.length hps
    have dp : Dz p (upd H2 a1 (.tup xs1)) (.ref a1) (.tuple ps) := Dz.tupN lx2.sc ha1 hps
    have hpA : (upd H2 a1 (.tup xs1)) a1 = some (.tup xs1) := upd_same
    have npA := lx2.sc.ne ha1
    generalize (upd H2 a1 (.tup xs1)) = HA at lxA dp hpA
    clear hL1s hps hpl hpR
    -- the size
    refine ⟨_, rfl, _, _, rfl, .inr ⟨_, SqT.of hpA, rfl⟩, _, _, rfl, rfl, _, rfl, p, _, rfl, lxA.sc, by decide, by decide, fun s' HB s0 s1 lxb => ?_⟩
    have lxB := lxA.trans lxb
    have dpB := dp.lx lxb
    have hpB := lxb.at hpA npA
    have hsz0 : 1 + (ps.length : Int) ≤ 1 + (xs1.length : Int) + s' := by omega
    have hsz1 : 1 + (xs1.length : Int) + s' ≤ 6 := by omega
    refine ⟨_, _, rfl, rfl, ?_⟩
    -- the first instructions
    have hm10 : 1 + (xs1.length : Int) + s' ≤ 10 := by omega
    refine ⟨fun σ' H' => ∃ (M2 : Addr) (xs2 : List V) (ds2 : List PyData), σ' = [some (.ref p), some (.bl b), some (.ref a1), some (.int (1 + (xs1.length : Int) + s')), some (.ref M2), none, none, none] ∧ Lx p H H' ∧ H' M2 = some (.lst xs2) ∧ M2 ≠ p ∧ DzAll p H' xs2 ds2 ∧ ds2.length ≤ 5 ∧ (∀ d ∈ ds2, RdyP (1 + (xs1.length : Int) + s') d) ∧ Dz p H' (.ref a1) (.tuple ps), ?_, ?_⟩
    · refine ⟨_, rfl, _, rfl, ?_⟩
      cases b with
      | true =>
        refine iteT ⟨_, rfl, _, rfl, _, rfl, _, _, rfl, .inr ⟨_, SqT.of hpB, rfl⟩, _, _, rfl, rfl, p, _, _, rfl, lxB.sc, by omega, by omega, hm10, fun M2 xs2 ds2 HC lxc hL2 hL2s hds2 hdl hrd => ?_⟩
        exact ⟨M2, xs2, ds2, rfl, lxB.trans lxc, hL2s, lxB.sc.ne hL2, hds2, by omega, hrd, dpB.lx lxc⟩
      | false =>
        refine iteF ⟨Nat.zero_le _, fun M2 hL2 => ?_⟩
        exact ⟨M2, [], [], rfl, lxB.then (Evl.Ex.new hL2), upd_same, lxB.sc.ne hL2, .nil, by simp, fun d hd => (nomatch hd), dpB.lx (.of lxB.sc (Evl.Ex.new hL2))⟩
    rintro σ' HC ⟨M2, xs2, ds2, rfl, lxC, hL2, np2, hds2, hdl, hrd, dpC⟩
    generalize 1 + (xs1.length : Int) + s' = sz at hsz0 hsz1 hm10 hrd
    have hx2 : xs2.length = ds2.length := DqAll.length hds2
    -- the length
    refine ⟨fun σ' H' => ∃ N : Int, σ' = [some (.ref p), some (.bl b), some (.ref a1), some (.int sz), some (.ref M2), some (.int N), none, none] ∧ (xs2.length : Int) + 1 ≤ N ∧ N ≤ (xs2.length : Int) + 9 ∧ Lx p HC H', ?_, ?_⟩
    · refine ⟨_, rfl, _, _, rfl, .inl ⟨_, SqL.of hL2, rfl⟩, _, _, rfl, rfl, _, rfl, p, _, rfl, lxC.sc, by decide, by decide, fun l' HD l0 l1 lxd => ?_⟩
      exact ⟨_, _, rfl, rfl, _, rfl, by omega, by omega, lxd⟩
    rintro σ' HD ⟨N, rfl, hNa, hNb, lxd⟩
    have lxD := lxC.trans lxd
    have hL2D := lxd.at hL2 np2
    have hdsD := DzAll.lx hds2 lxd
    have dpD := dpC.lx lxd
    have hN0 : (ds2.length : Int) + 1 ≤ N := by omega
    have hN1 : N ≤ 14 := by omega
    -- the code
    refine ⟨_, rfl, _, rfl, _, rfl, _, _, rfl, .inl ⟨_, SqL.of hL2D, rfl⟩, _, _, rfl, rfl, _, rfl, by omega, by omega, fun L3 hL3 => ?_⟩
    refine lc_lx walk_range lxD.sc hL3 (fun _ _ => trivial) (fun _ d => InsP sz N d) (by omega) (fun j H2 x H3 y => y.1) ?_ ?_
    · rintro j x HE hj lxe _ Qt hQt
      exact ⟨rfl, _, rfl, _, rfl, _, rfl, p, sz, N, rfl, lxe.sc, by omega, hm10, by omega, by omega, fun y d H5 lx5 hy hin => hQt y d H5 lx5 hy (hin.ok).2 hin⟩
    intro HE xs3 ds3 lxe hL3s hds3 hdl3 hno3 hR3
    have lxE := lxD.trans lxe
    have hL2E := lxe.at hL2D np2
    refine ⟨M2, L3, _, _, rfl, rfl, hL2E, hL3s, le_line (by rw [hx2, DqAll.length hds3]; omega), fun M4 hL4 => ?_⟩
    have e4 := Evl.Ex.new (o := .lst (xs2 ++ xs3)) hL4
    have lxF := lxE.then e4
    have np4 := lxE.sc.ne hL4
    have hM4 : H M4 = none := by
      have := lxE.ex
      cases hz : H M4 with
      | none => rfl
      | some o => have := lxE.at hz np4; rw [this] at hL4; cases hL4
    have hcd : DzAll p (upd HE M4 (.lst (xs2 ++ xs3))) (xs2 ++ xs3) (ds2 ++ ds3) := DzAll.lx (DqAll.app (DzAll.lx hdsD lxe) hds3) (.of lxE.sc e4)
    have hci : ∀ d ∈ ds2 ++ ds3, InsP sz N d := fun d hd => (List.mem_append.mp hd).elim (fun q => (hrd d q).ins) fun q => mem_of_get (fun i d h => hR3 i d h) d q
    have hcl : ((ds2 ++ ds3).length : Int) = N := by rw [List.length_append]; omega
    have hL4s : (upd HE M4 (.lst (xs2 ++ xs3))) M4 = some (.lst (xs2 ++ xs3)) := upd_same
    have dpF := (dpD.lx lxe).lx (.of lxE.sc e4)
    generalize (upd HE M4 (.lst (xs2 ++ xs3))) = HF at lxF hcd hL4s dpF
    generalize xs2 ++ xs3 = xs4 at hcd hL4s
    generalize ds2 ++ ds3 = ds4 at hcd hci hcl
    clear hL3s hds3 hdl3 hno3 hR3 hL2E hL2D hdsD hds2 hdl hrd hL2 lxe lxd
    -- the last one
    refine ⟨fun σ' H' => ∃ (xs5 : List V) (ds5 : List PyData), σ' = [some (.ref p), some (.bl b), some (.ref a1), some (.int sz), some (.ref M2), some (.int N), some (.ref M4), none] ∧ Lx p H H' ∧ H' M4 = some (.lst xs5) ∧ DzAll p H' xs5 ds5 ∧ (ds5.length : Int) = N ∧ (∀ d ∈ ds5, InsP sz N d) ∧ Dz p H' (.ref a1) (.tuple ps), ?_, ?_⟩
    · refine ⟨_, rfl, _, rfl, ?_⟩
      have stay : _ := fun (HG : Hp) (l : Lx p HF HG) => (⟨xs4, ds4, rfl, lxF.trans l, l.at hL4s np4, DzAll.lx hcd l, hcl, hci, dpF.lx l⟩ : ∃ (xs5 : List V) (ds5 : List PyData), ([some (.ref p), some (.bl b), some (.ref a1), some (.int sz), some (.ref M2), some (.int N), some (.ref M4), none] : L2.St) = [some (.ref p), some (.bl b), some (.ref a1), some (.int sz), some (.ref M2), some (.int N), some (.ref M4), none] ∧ Lx p H HG ∧ HG M4 = some (.lst xs5) ∧ DzAll p HG xs5 ds5 ∧ (ds5.length : Int) = N ∧ (∀ d ∈ ds5, InsP sz N d) ∧ Dz p HG (.ref a1) (.tuple ps))
      cases b with
      | false => exact iteF (stay HF (.refl lxF.sc))
      | true =>
        refine iteT ⟨_, rfl, p, _, rfl, lxF.sc, by decide, by decide, fun q HG q0 q1 lxg => ⟨_, _, rfl, rfl, _, rfl, ?_⟩⟩
        refine ite2 (fun _ => ?_) (fun _ => stay HG lxg)
        have lxG := lxF.trans lxg
        refine ⟨_, rfl, _, rfl, _, rfl, p, sz, rfl, lxG.sc, by omega, by omega, fun v1 H1 v10 v11 lx1 => ⟨le_line (by simp), fun t1 ht1 => ?_⟩⟩
        have f1 := Evl.Ex.new (o := .tup [.str "return", .int v1]) ht1
        have lA : Lx p HG (upd H1 t1 (.tup [.str "return", .int v1])) := lx1.then f1
        have z1 : DzAll p (upd H1 t1 (.tup [.str "return", .int v1])) [.ref t1] [.tuple [.str "return", .int v1]] := .cons (Dz.tupN lx1.sc ht1 (.cons (.str _) (.cons (.int _) .nil))) .nil
        refine ⟨_, rfl, _, rfl, p, N, rfl, lA.sc, by omega, by omega, fun v2 H3 v20 v21 lx3 => ⟨le_line (by simp), fun t2 ht2 => ⟨le_line (by simp), fun b1 hb1 => ?_⟩⟩⟩
        have f3 := Evl.Ex.new (o := .tup [.str "jump", .int v2]) ht2
        have lB := (lA.trans lx3).then f3
        have z2 := DqAll.app (DzAll.lx (DzAll.lx z1 lx3) (.of lx3.sc f3)) (.cons (Dz.tupN lx3.sc ht2 (.cons (.str "jump") (.cons (.int v2) .nil))) .nil)
        have f4 := Evl.Ex.new (o := .lst [.ref t1, .ref t2]) hb1
        have lC := lB.then f4
        have z3 := DzAll.lx z2 (.of lB.sc f4)
        refine ⟨p, b1, _, rfl, lC.sc, lB.sc.ne hb1, upd_same, by simp, by simp, fun x H5 hx lx5 => ?_⟩
        have lD := lC.trans lx5
        have z4 := DzAll.lx z3 lx5
        obtain ⟨i, hi⟩ := List.mem_iff_getElem?.mp hx
        obtain ⟨di, hdi, hxi⟩ := z4.get hi
        have hin : InsP sz N di := by
          have hm : di ∈ [PyData.tuple [.str "return", .int v1], .tuple [.str "jump", .int v2]] := List.mem_of_getElem? hdi
          simp only [List.mem_cons, List.not_mem_nil, or_false] at hm
          rcases hm with rfl | rfl
          · exact .ret v1 v10 v11
          · exact .jump v2 v20 v21
        have lFD := lxg.trans lD
        have hL5 := lFD.at hL4s np4
        have hcd5 := DzAll.lx hcd lFD
        have hxl : xs4.length = ds4.length := DqAll.length hcd
        refine ⟨_, rfl, _, rfl, M4, xs4, -1, xs4.length - 1, rfl, rfl, hL5, ?_, ?_⟩
        · unfold L2.ixN
          rw [if_neg (by decide), if_pos (by omega)]
          exact congrArg some (by omega)
        · have hno : noLs ds4 = true := noLs_of fun d hd => (hci d hd).ok.2
          have hnM : H M4 = none := hM4
          refine ⟨xs4.set (xs4.length - 1) x, ds4.set (xs4.length - 1) di, rfl, (lxF.trans lFD).mut np4 hnM, upd_same, DqAll.setA (hcd5.mutD hL5 np4 hno) (Dz.mutD hL5 np4 hxi hin.ok.2) _, by rw [List.length_set]; exact hcl, fun d hd => ?_, Dz.mutD hL5 np4 (dpF.lx lFD) (noLs_of (ds := ps) fun k hk => by obtain ⟨z, hz, rfl⟩ := hpt k hk; rfl)⟩
          rcases List.mem_or_eq_of_mem_set hd with q | q
          · exact hci d q
          · subst q; exact hin
    rintro σ' HG ⟨xs5, ds5, rfl, lxG, hL4G, hcdG, hclG, hciG, dpG⟩
    refine ⟨_, rfl, _, rfl, p, rfl, lxG.sc, fun z H9 hz lx9 => ⟨_, rfl, _, rfl, fun x dx hx hdx hne => ?_⟩⟩
    have lxH := lxG.trans lx9
    have dp9 := dpG.lx lx9
    have dc9 : Dz p H9 (.ref M4) (.list ds5) := .lst (by rw [rm_ne np4]; exact lx9.at hL4G np4) (DqAll.ext lx9.ex hcdG)
    have hps : noLs ps = true := noLs_of fun k hk => by obtain ⟨z, hz, rfl⟩ := hpt k hk; rfl
    have hcs : noLs ds5 = true := noLs_of fun d hd => (hciG d hd).ok.2
    have mp : MethP ps z sz ds5 := ⟨hpl2, hpt, hz, hsz0, hsz1, by omega, by omega, fun d hd => by rw [hclG]; exact hciG d hd⟩
    have e1 : Evl.Ex H9 (upd (upd H9 dx (.own x)) x (.ins (He.ga K "Method") dx [])) := fun b o e => by
      rw [upd_ne (by rintro rfl; rw [hx] at e; cases e), upd_ne (by rintro rfl; rw [hdx] at e; cases e)]; exact e
    have npx : x ≠ p := lxH.sc.ne hx
    have lxI := lxH.then e1
    refine ⟨x, dx, _, _, _, _, _, _, _, _, _, sz, rfl, upd_same, mp.parts (dp9.q.ext e1) (dc9.q.ext e1) rfl rfl (decide_eq_true (by omega)) (decide_eq_true (by omega)) ?_ ?_ "m" (by decide) ⟨by decide, by decide +kernel⟩, fun H' p' c' hk ha hp' hc' => ⟨rfl, ?_⟩⟩
    · exact okAll_of fun k hk => by obtain ⟨w', hw, rfl⟩ := hpt k hk; exact ok_str ⟨by have := (tyS_ok w' hw).2.1; omega, (tyS_ok w' hw).2.2⟩
    · exact okAll_of fun d hd => (hciG d hd).ok.1
    obtain ⟨cN, cS, hsrc, csr⟩ := lxI.sc
    have hsrc' := hk p _ (Ne.symm npx) hsrc
    have lxJ : Lx p H H' := by
      refine ⟨fun b o e => ?_, ⟨cN, cS, hsrc', csr⟩⟩
      have nb := rm_ne_of e
      have e2 := lxI.ex b o e
      rw [rm_ne nb] at e e2 ⊢
      refine hk b o ?_ e2
      rintro rfl
      have := lxH.at e nb
      rw [hx] at this
      cases this
    exact hQ (.ref x) ps z sz ds5 H' lxJ ⟨x, dx, p', c', rfl, by rw [rm_ne npx]; exact ha, dq_rmL hsrc' hp' hps, dq_rmL hsrc' hc' hcs⟩ mp
end
end K07
set_option Elab.async false
set_option linter.all false
set_option maxRecDepth 100000
set_option maxHeartbeats 2000000
/-! sets of texts: made, grown -/
namespace TX
open PySem PySem.Spec PyProof.Rows L2
def keyS (e : Int × Value) : Str := match e.2 with | .str k _ => k | _ => Str.empty
def GoodS (w : World) (e : Int × Value) : Prop := ∃ k tk, e.2 = Value.str k tk ∧ e.1 = hashStr w k
/-- the set of bools at a: S its members, n their number; its table rises and can be walked -/
def SetS (w : World) (h : Heap) (a : Addr) (S : Str → Bool) (n : Nat) : Prop :=
  ∃ o es ep t, h.get? a = some o ∧ o.ExactSet ∧ o.data = .set es ep t ∧ (∀ e ∈ es.toList, GoodS w e) ∧ (es.toList.map keyS).Nodup ∧ (∀ k, S k = true ↔ k ∈ es.toList.map keyS) ∧
    es.size < scanBound ∧ t.fits es.size = true ∧ es.size = n ∧ Ris t.place.toList ∧ (w.params.followText "set-order" = true ∨ t.led = true)

section
variable {P : Program} {w : World} {h h' : Heap} {a : Addr} {S : Str → Bool} {n : Nat}

theorem SetS.at (R : SetS w h a S n) (k : ∀ o, h.get? a = some o → h'.get? a = some o) : SetS w h' a S n := by
  obtain ⟨o, es, ep, t, ho, r⟩ := R
  exact ⟨o, es, ep, t, k o ho, r⟩
theorem SetS.lt (R : SetS w h a S n) : a < h.objs.size := by
  obtain ⟨o, es, ep, t, ho, r⟩ := R
  exact Heap.lt_size ho
theorem SetS.congr {S' : Str → Bool} (R : SetS w h a S n) (e : ∀ k, S' k = S k) : SetS w h a S' n := by
  have q : S' = S := funext e
  rw [q]; exact R
theorem goodS_elems {l : List (Int × Value)} (g : ∀ e ∈ l, GoodS w e) : ElemsOf (strKind P w) l := fun e he => by
  obtain ⟨k, tk, h1, h2⟩ := g e he
  exact ⟨⟨k, by rw [h1]; exact strKind_is P w k tk, h2⟩, by rw [h1] <;> rfl⟩
theorem goodS_is {e : Int × Value} (g : GoodS w e) (k : Str) : (strKind P w).is k e.2 = true ↔ keyS e = k := by
  obtain ⟨k0, tk, h1, _⟩ := g
  unfold keyS
  rw [h1]
  exact ⟨fun h => ((strKind P w).inj _ _ _ (strKind_is P w k0 tk) h), fun h => by subst h; exact strKind_is P w k0 tk⟩
theorem goodS_mem {l : List (Int × Value)} (g : ∀ e ∈ l, GoodS w e) (k : Str) : k ∈ l.map keyS ↔ ∃ e ∈ l, (strKind P w).is k e.2 = true := by
  rw [List.mem_map]
  constructor
  · rintro ⟨e, he, q⟩
    exact ⟨e, he, (goodS_is (g e he) k).2 q⟩
  · rintro ⟨e, he, q⟩
    exact ⟨e, he, (goodS_is (g e he) k).1 q⟩
theorem SetS.setOf (R : SetS w h a S n) : h.SetOf (strKind P w) a S n := by
  obtain ⟨o, es, ep, t, ho, hx, hd, g, nd, hm, hb, hf, hn, _⟩ := R
  exact ⟨o, es, ep, t, ho, hx, hd, goodS_elems g, fun k => (hm k).trans (goodS_mem g k), hb, hf, hn⟩
end

section
variable {P : Program} {w : World} {A : Around} {E : Value → Shared → Prop} {s : Shared} {a : Addr} {S : Str → Bool} {n : Nat}

/-! ### add -/
theorem storeS_at {h : Heap} {a : Addr} {o : Obj} {es es' : Array (Int × Value)} {ep : Nat} {t t' : SetTable} (ho : h.get? a = some o) (hd : o.data = .set es ep t) :
    (h.update a (Obj.putSet es' t')).get? a = some { o with data := .set es' (ep + 1) t' } := by
  have q := Heap.get?_update_self (Obj.putSet es' t') ho (by rw [putSet_of es' t' hd]; rfl)
  rw [putSet_of es' t' hd] at q
  exact q

theorem setS_add_tail {g : Bool → Sem Unit} (hg : ∀ (b : Bool) (s₁ : Shared) (Q' : Unit → Shared → Prop), Q' () s₁ → wpAny (model P w) A (g b) Q' E s₁)
    {o : Obj} {es : Array (Int × Value)} {ep : Nat} {t : SetTable} (ho : s.heap.get? a = some o) (hex : o.ExactSet) (hd : o.data = .set es ep t)
    {es1 : Array (Int × Value)} {t2 : SetTable} {S' : Str → Bool} (g1 : ∀ e ∈ es1.toList, GoodS w e) (nd1 : (es1.toList.map keyS).Nodup) (m1 : ∀ k, S' k = true ↔ k ∈ es1.toList.map keyS)
    (hb1 : es1.size < scanBound) (hf2 : t2.fits es1.size = true) (hr : Ris t2.place.toList) (hl : w.params.followText "set-order" = true ∨ t2.led = true) {wasDummy : Bool} {R : Option Bool → Shared → Prop}
    (hR : ∀ h', Heap.SameBut a s.heap h' → SetS w h' a S' es1.size → R (some true) { s with heap := h' }) :
    wpAny (model P w) A (do
        storeSet a es1 t2
        if (!wasDummy && t2.tooFull) = true then do
            g (relayAll t2 es1 (SetTable.grown es1.size)).2.2
            storeSet a (relayAll t2 es1 (SetTable.grown es1.size)).1 (relayAll t2 es1 (SetTable.grown es1.size)).2.1
            pure (some true)
          else pure (some true)) R E s := by
  refine wpAny_bind (wpAny_storeSet_of ho hd ?_ (fits_of_scanBound hb1))
  have ho1 := storeS_at (es' := es1) (t' := t2) ho hd
  have sb1 := Heap.SameBut.update s.heap a (Obj.putSet es1 t2)
  split
  · have pm := relayAll_perm t2 es1 (SetTable.grown es1.size)
    have hf3 := relayAll_fits t2 es1 (SetTable.grown es1.size)
    have hr3 := relayAll_ris t2 es1 (SetTable.grown es1.size)
    have hl3 := relayAll_led t2 es1 (SetTable.grown es1.size)
    generalize relayAll t2 es1 (SetTable.grown es1.size) = Z at pm hf3 hr3 hl3 ⊢
    obtain ⟨es2, t3, gave⟩ := Z
    dsimp only at pm hf3 hr3 hl3 ⊢
    have hsz : es2.size = es1.size := by rw [← Array.length_toList, pm.length_eq, Array.length_toList]
    have hb2 : es2.size < scanBound := by rw [hsz]; exact hb1
    refine wpAny_bind (hg _ _ _ ?_)
    refine wpAny_bind (wpAny_storeSet_of ho1 rfl ?_ (fits_of_scanBound hb2))
    have ho2 := storeS_at (es' := es2) (t' := t3) ho1 rfl
    refine wpAny_pure (hR _ (sb1.trans (Heap.SameBut.update _ a _)) ?_)
    exact ⟨_, es2, _, t3, ho2, hex, rfl, fun e he => g1 e (pm.mem_iff.mp he), (pm.map keyS).nodup_iff.mpr nd1, fun k => (m1 k).trans (pm.map keyS).mem_iff.symm, hb2, hf3, hsz, hr3,
      hl.imp id fun z => by rw [hl3]; exact z⟩
  · exact wpAny_pure (hR _ sb1 ⟨_, es1, _, t2, ho1, hex, rfl, g1, nd1, m1, hb1, hf2, rfl, hr, hl⟩)

theorem setS_add_hashed {k : Str} {tk : Tok} {Q : Bool → Shared → Prop} (R : SetS w s.heap a S n) (room : n + 1 < scanBound)
    (hQ : ∀ h', Heap.SameBut a s.heap h' → SetS w h' a (fun j => S j || decide (j = k)) (if S k = true then n else n + 1) → Q (!S k) { s with heap := h' }) :
    wpAny (model P w) A (setAddHashed a (.str k tk) ((strKind P w).hash k)) Q E s := by
  obtain ⟨o, es, ep, t, ho, hex, hd, g, nd, hm, hb, hf, hn, hr, hl⟩ := R
  have hkey : (strKind P w).is k (.str k tk) = true := strKind_is P w k tk
  have hsc : (Value.str k tk).scannable = true := rfl
  have hel : ElemsOf (strKind P w) es.toList := goodS_elems g
  unfold setAddHashed setAddHashedIn
  refine wpAny_holding (wpAny_bind (wpAny_setState_of ho hd hf ?_))
  dsimp only
  rw [byScan_of hsc hb hel]
  simp only [↓reduceIte]
  unfold setAddByScan
  refine wpAny_bind ?_
  refine wpAny_bind (wpAny_rule ?_)
  refine wpAny_bind (wpAny_setScan_of hkey ho hd hf hel ?_)
  cases hfi : List.findIdx? (fun e => (strKind P w).is k e.2) es.toList with
  | some j =>
    dsimp only
    obtain ⟨hj, pj, _⟩ := List.findIdx?_eq_some_iff_getElem.mp hfi
    have hSk : S k = true := (hm k).2 ((goodS_mem (P := P) (w := w) g k).2 ⟨es.toList[j], List.getElem_mem hj, pj⟩)
    refine wpAny_pure (wpAny_pure ?_)
    have q := hQ s.heap (Heap.SameBut.refl a s.heap) ⟨o, es, ep, t, ho, hex, hd, g, nd, fun i => by
      rw [Bool.or_eq_true, decide_eq_true_eq, ← hm i]
      exact ⟨fun z => z.elim id (fun e => e ▸ hSk), .inl⟩, hb, hf, by rw [if_pos hSk]; exact hn, hr, hl⟩
    rw [hSk] at q
    exact q
  | none =>
    dsimp only
    have hnk : k ∉ es.toList.map keyS := fun z => by
      obtain ⟨e, he, q⟩ := (goodS_mem (P := P) (w := w) g k).1 z
      have c := List.findIdx?_eq_none_iff.mp hfi e he
      rw [q] at c
      cases c
    have hSk : S k = false := by
      cases q : S k with
      | false => rfl
      | true => exact absurd ((hm k).1 q) hnk
    have hgw : ∀ (b : Bool) {s₁ : Shared} {Q' : Unit → Shared → Prop}, Q' () s₁ → wpAny (model P w) A (match b with | true => rule "set.scan.the-table-gave-way" | false => pure ()) Q' E s₁ :=
      fun b s₁ Q' q => by cases b <;> first | exact wpAny_pure q | exact wpAny_rule q
    have pm := layNew_perm t es ((strKind P w).hash k) (.str k tk)
    have hf1 := layNew_fits t es ((strKind P w).hash k) (.str k tk)
    have hr1 := layNew_ris t es ((strKind P w).hash k) (.str k tk) hr
    have hl1 := layNew_led t es ((strKind P w).hash k) (.str k tk)
    generalize layNew t es ((strKind P w).hash k) (.str k tk) = Z at pm hf1 hr1 hl1 ⊢
    obtain ⟨es1, t1, wasDummy, gave⟩ := Z
    dsimp only at pm hf1 hr1 hl1 ⊢
    rw [Array.toList_push] at pm
    have pc : es1.toList.Perm (((strKind P w).hash k, Value.str k tk) :: es.toList) := pm.trans (List.perm_append_singleton _ _)
    have pk : (es1.toList.map keyS).Perm (k :: es.toList.map keyS) := pc.map keyS
    have g1 : ∀ e ∈ es1.toList, GoodS w e := fun e he => by
      rcases List.mem_cons.mp (pc.mem_iff.mp he) with z | z
      · rw [z]; exact ⟨k, tk, rfl, rfl⟩
      · exact g e z
    have nd1 : (es1.toList.map keyS).Nodup := pk.nodup_iff.mpr (List.nodup_cons.mpr ⟨hnk, nd⟩)
    have m1 : ∀ i, (S i || decide (i = k)) = true ↔ i ∈ es1.toList.map keyS := fun i => by
      rw [Bool.or_eq_true, decide_eq_true_eq, hm i, pk.mem_iff, List.mem_cons]
      exact Or.comm
    have hsz : es1.size = n + 1 := by rw [← Array.length_toList, pc.length_eq, List.length_cons, Array.length_toList, hn]
    have hb1 : es1.size < scanBound := by rw [hsz]; exact room
    have hled : w.params.followText "set-order" = true ∨ t1.led = true := hl.imp id fun z => by rw [hl1]; exact z
    have fin : ∀ h', Heap.SameBut a s.heap h' → SetS w h' a (fun j => S j || decide (j = k)) es1.size → Q true { s with heap := h' } := fun h' sb r => by
      have q := hQ h' sb
      rw [hSk] at q
      rw [hsz] at r
      exact q r
    refine wpAny_bind (hgw _ ?_)
    split
    · refine wpAny_bind ?_
      rw [hashByValue_scannable 8 hsc]
      refine wpAny_pure ?_
      refine setS_add_tail ?_ ho hex hd g1 nd1 m1 hb1 ?_ ?_ ?_ ?_
      · intro b s₁ Q' q; cases b <;> first | exact wpAny_pure q | exact wpAny_rule q
      · first | (split <;> first | exact hf1 | exact SetTable.fits_plain_off hf1) | exact hf1
      · first | (split <;> exact hr1) | exact hr1
      · first | (split <;> exact hled) | exact hled
      · intro h' sb r; dsimp only; exact wpAny_pure (fin h' sb r)
    · refine wpAny_bind (wpAny_pure ?_)
      simp only [↓reduceIte]
      refine setS_add_tail ?_ ho hex hd g1 nd1 m1 hb1 hf1 hr1 hled ?_
      · intro b s₁ Q' q; cases b <;> first | exact wpAny_pure q | exact wpAny_rule q
      · intro h' sb r; dsimp only; exact wpAny_pure (fin h' sb r)

/-- found.add(k) -/
theorem setS_add {k : Str} {tk : Tok} {Q : Value → Shared → Prop} (R : SetS w s.heap a S n) (room : n + 1 < scanBound)
    (hQ : ∀ h', Heap.SameBut a s.heap h' → SetS w h' a (fun j => S j || decide (j = k)) (if S k = true then n else n + 1) → Q .none { s with heap := h', toks := s.toks + 1 }) :
    wpAny (model P w) A (call (.builtin "set.add") [.ref a, .str k tk]) Q E s := by
  have hS : s.heap.SetOf (strKind P w) a S n := R.setOf
  refine wpAny_call_entry F.slot_set_add hS.typeIs F.entry_set_add ?_ (F.args_set_add_2 _ _)
  unfold Builtin.«set.add» Builtin.Frozenset.oneOther
  simp only [List.isEmpty_nil, bind_assoc]
  unfold Builtin.Frozenset.addrOf setAdd
  refine wpAny_bind (wpAny_pure ?_)
  try dsimp only
  refine wpAny_bind (wpAny_pure ?_)
  try dsimp only
  refine wpAny_bind ?_
  refine wpAny_holding ?_
  refine wpAny_bind ((strKind P w).pyHash (strKind_is P w k tk) ?_)
  refine setS_add_hashed (s := { s with toks := s.toks + 1 }) R room fun h' sb r => ?_
  show wpAny _ _ (ret Value.none) _ _ _
  exact wpAny_pure ⟨_, rfl, hQ h' sb r⟩

end
section
variable {P : Program} {w : World} {A : Around} {E : Value → Shared → Prop} {s : Shared}
end
end TX
set_option Elab.async false
set_option linter.all false
set_option maxRecDepth 100000
set_option maxHeartbeats 2000000
/-! the order of texts; set(list of texts), set(tuple of texts) -/
namespace TX
open PySem PySem.Spec PyProof.Rows L2
/-! ### the order -/
def ltS (a b : Str) : Bool := decide (a.cps.toList < b.cps.toList)
theorem ltS_irr (a : Str) : ltS a a = false := decide_eq_false (List.lt_irrefl _)
theorem ltS_trans {a b c : Str} (h : ltS a b = true) (g : ltS b c = true) : ltS a c = true := decide_eq_true (List.lt_trans (of_decide_eq_true h) (of_decide_eq_true g))
theorem str_ext {a b : Str} (h : a.cps.toList = b.cps.toList) : a = b := by
  cases a; cases b
  simp only [Str.mk.injEq]
  exact Array.toList_inj.mp h
theorem ltS_tri {a b : Str} (h : ltS a b = false) (n : a ≠ b) : ltS b a = true := by
  refine decide_eq_true ?_
  have h1 : ¬ a.cps.toList < b.cps.toList := of_decide_eq_false h
  have h2 : b.cps.toList ≤ a.cps.toList := List.not_lt.mp h1
  rcases List.le_iff_lt_or_eq.mp h2 with h3 | h3
  · exact h3
  · exact absurd (str_ext h3.symm) n
def Srt (l : List Str) : Prop := l.Pairwise fun a b => ltS a b = true
def ins (x : Str) : List Str → List Str
  | [] => [x]
  | y :: r => if x = y then y :: r else if ltS x y = true then x :: y :: r else y :: ins x r
def canon : List Str → List Str
  | [] => []
  | x :: r => ins x (canon r)
theorem mem_ins {k x : Str} : ∀ {l : List Str}, k ∈ ins x l ↔ k = x ∨ k ∈ l
  | [] => by simp [ins]
  | y :: r => by
    unfold ins
    split
    · rename_i h; subst h; simp
    · split
      · simp
      · rw [List.mem_cons, mem_ins, List.mem_cons]
        exact ⟨fun h => h.elim (fun h => .inr (.inl h)) fun h => h.elim .inl fun h => .inr (.inr h), fun h => h.elim (fun h => .inr (.inl h)) fun h => h.elim .inl fun h => .inr (.inr h)⟩
theorem mem_canon {k : Str} : ∀ {l : List Str}, k ∈ canon l ↔ k ∈ l
  | [] => by simp [canon]
  | x :: r => by rw [canon, mem_ins, mem_canon, List.mem_cons]
theorem srt_ins {x : Str} : ∀ {l : List Str}, Srt l → Srt (ins x l)
  | [], _ => by simp [ins, Srt]
  | y :: r, h => by
    obtain ⟨h1, h2⟩ := List.pairwise_cons.mp h
    unfold ins
    split
    · exact h
    · rename_i ne
      split
      · rename_i lt
        refine List.pairwise_cons.mpr ⟨fun z hz => ?_, h⟩
        rcases List.mem_cons.mp hz with rfl | hz
        · exact lt
        · exact ltS_trans lt (h1 z hz)
      · rename_i nl
        refine List.pairwise_cons.mpr ⟨fun z hz => ?_, srt_ins h2⟩
        rcases mem_ins.mp hz with rfl | hz
        · exact ltS_tri (by simpa using nl) ne
        · exact h1 z hz
theorem srt_canon : ∀ (l : List Str), Srt (canon l)
  | [] => List.Pairwise.nil
  | x :: r => srt_ins (srt_canon r)
theorem Srt.nodup {l : List Str} (h : Srt l) : l.Nodup := h.imp fun {a b} g e => by subst e; rw [ltS_irr] at g; cases g
theorem Srt.ext : ∀ {a b : List Str}, Srt a → Srt b → (∀ k, k ∈ a ↔ k ∈ b) → a = b
  | [], [], _, _, _ => rfl
  | [], y :: s, _, _, h => absurd ((h y).mpr List.mem_cons_self) (by simp)
  | x :: r, [], _, _, h => absurd ((h x).mp List.mem_cons_self) (by simp)
  | x :: r, y :: s, ha, hb, h => by
    obtain ⟨a1, a2⟩ := List.pairwise_cons.mp ha
    obtain ⟨b1, b2⟩ := List.pairwise_cons.mp hb
    have e : x = y := by
      rcases List.mem_cons.mp ((h x).mp List.mem_cons_self) with e | e
      · exact e
      · rcases List.mem_cons.mp ((h y).mpr List.mem_cons_self) with g | g
        · exact g.symm
        · have := ltS_trans (a1 y g) (b1 x e)
          rw [ltS_irr] at this
          cases this
    subst e
    refine congrArg _ (Srt.ext a2 b2 fun k => ⟨fun hk => ?_, fun hk => ?_⟩)
    · rcases List.mem_cons.mp ((h k).mp (List.mem_cons_of_mem _ hk)) with e | e
      · subst e
        have := a1 k hk
        rw [ltS_irr] at this
        cases this
      · exact e
    · rcases List.mem_cons.mp ((h k).mpr (List.mem_cons_of_mem _ hk)) with e | e
      · subst e
        have := b1 k hk
        rw [ltS_irr] at this
        cases this
      · exact e
theorem canon_of {l : List Str} (h : Srt l) : canon l = l := (srt_canon l).ext h fun _ => mem_canon
theorem canon_congr {a b : List Str} (h : ∀ k, k ∈ a ↔ k ∈ b) : canon a = canon b := (srt_canon a).ext (srt_canon b) fun k => by rw [mem_canon, mem_canon, h]
theorem canon_len (l : List Str) : (canon l).length ≤ l.length := by
  induction l with
  | nil => exact Nat.le_refl _
  | cons x r ih =>
    have : ∀ l : List Str, (ins x l).length ≤ l.length + 1 := by
      intro l
      induction l with
      | nil => exact Nat.le_refl _
      | cons y s ih =>
        unfold ins
        split
        · simp
        · split
          · simp
          · simpa using ih
    have h2 := this (canon r)
    simp only [canon, List.length_cons]
    omega
theorem nodup_perm {a b : List Str} (ha : a.Nodup) (hb : b.Nodup) (h : ∀ k, k ∈ a ↔ k ∈ b) : a.Perm b := (List.perm_ext_iff_of_nodup ha hb).mpr h
theorem rising_srt : ∀ {p : Str} {l : List Str}, risingS p l = true → (p :: l).Nodup → Srt (p :: l)
  | p, [], _, _ => List.pairwise_singleton _ _
  | p, x :: r, h, nd => by
    have h0 : (!ltCps x.cps.toList p.cps.toList && risingS x r) = true := h
    rw [Bool.and_eq_true, ltCps_eq] at h0
    obtain ⟨n1, n2⟩ := List.nodup_cons.mp nd
    have ih := rising_srt h0.2 n2
    have lt : ltS p x = true := ltS_tri (by simpa [ltS] using h0.1) (fun e => n1 (by rw [e]; exact List.mem_cons_self))
    refine List.pairwise_cons.mpr ⟨fun z hz => ?_, ih⟩
    rcases List.mem_cons.mp hz with rfl | hz
    · exact lt
    · exact ltS_trans lt ((List.pairwise_cons.mp ih).1 z hz)
theorem sorted_srt : ∀ {l : List Str}, sortedS l = true → l.Nodup → Srt l
  | [], _, _ => List.Pairwise.nil
  | _ :: _, h, nd => rising_srt h nd
/-! ### the number of a set -/
theorem SetS.canon {w : World} {h : Heap} {a : Addr} {n : Nat} {xs ys : List Str} (R : SetS w h a (fun k => decide (k ∈ ys)) n) (e : ys = xs) : SetS w h a (fun k => decide (k ∈ xs)) (canon xs).length := by
  subst e
  obtain ⟨o, es, ep, t, ho, hx, hd, g, nd, hm, hb, hf, hn, r⟩ := R
  refine ⟨o, es, ep, t, ho, hx, hd, g, nd, hm, hb, hf, ?_, r⟩
  have p : (es.toList.map keyS).Perm (TX.canon ys) := nodup_perm nd (srt_canon _).nodup fun k => by
    rw [mem_canon, ← hm k, decide_eq_true_eq]
  rw [← p.length_eq, List.length_map, Array.length_toList]
theorem setS_at0 {w : World} {h : Heap} {a : Addr} {led : Bool} (e : led = (!w.params.followText "set-order")) (ho : h.get? a = some { cls := .type "set", dict := none, data := .set #[] 0 (.fresh 0 0 led) }) : SetS w h a (fun _ => false) 0 := by
  subst e
  exact ⟨_, #[], 0, _, ho, ⟨rfl, rfl, rfl⟩, rfl, (fun e he => by simp at he), (by simp), (fun k => by simp), (by decide), (by rfl), rfl, List.Pairwise.nil, by
    show _ ∨ (!w.params.followText "set-order") = true
    cases w.params.followText "set-order"
    · exact .inr rfl
    · exact .inl rfl⟩
section
variable {prog : Program} {w : World} {A : Around} {E : Value → Shared → Prop} {s : Shared}
theorem code_set_led1 (a : Value) {Q₁ : Value → Shared → Prop}
    (h : Q₁ (.ref s.heap.objs.size) { s with heap := s.heap.push { cls := .type "set", dict := none, data := .set #[] 0 (.fresh 0 0 (!w.params.followText "set-order")) } }) :
    codeAny (model prog w) A (.call (.builtin "set.__new__") ⟨[.type "set", a], []⟩) (wants Q₁ E) s := by
  refine codeAny_of_tree ?_
  show wpAny _ A.in1 (do checkBuiltinCall "set.__new__" ⟨[.type "set", a], []⟩; again (.builtin "set.__new__" ⟨[.type "set", a], []⟩)) _ _ s
  refine wpAny_bind (wpAny_of_eq (PySem.F.newCall_set_1 a) (wpAny_pure ⟨plainId_quiet PySem.F.plain_set_new _, codeAny_builtin PySem.F.entry_set_new ?_⟩))
  rw [Around.under_plainId PySem.F.plain_set_new _]
  unfold Builtin.«set.__new__» Builtin.Frozenset.newClass
  have hsub := PySem.sub_set_self
  obtain ⟨hp, g, d, tk, os⟩ := s
  dsimp only
  wp_walk
  refine wpAny_askSetting (wpAny_pure ?_)
  dsimp only
  simp only [newObj]
  refine wpAny_bind (wpAny_alloc (wpAny_pure ?_))
  exact wpAny_pure h
end
section
variable {prog : Program} {w : World} {A : Around} {R : Result → Shared → Prop} {I : Addr} {fp wr : List Addr} {G : Array GenState → Array GenState → Prop} {n : Nat} {P : Nat → Value → Prop} {St : Nat → Shared → Prop}
theorem loopTx (W : WalksS prog w A.in1 I fp wr G n P St) (S : Addr) (hSf : S ∉ fp) (xs : List Str) (hsz : xs.length = n) (hb : n + 1 < scanBound)
    (hval : ∀ i v, P i v → ∃ t, v = .str (xs.getD i Str.empty) t) :
    ∀ (k i : Nat) (s : Shared), n - i = k → i ≤ n → St i s →
      (∃ m, m ≤ i ∧ SetS w s.heap S (fun k' => decide (k' ∈ xs.take i)) m) →
      (∀ s', Moved (S :: wr) G s s' → (∃ m, m ≤ n ∧ SetS w s'.heap S (fun k' => decide (k' ∈ xs.take n)) m) → R (.ok (.ret .none)) s') →
      codeAny (model prog w) A (.builtin "set.update.loop" ⟨[.ref S, .ref I], []⟩) R s := by
  have hSw : S ∉ wr := fun h => hSf (W.sub _ h)
  have hsub : ∀ b ∈ wr, b ∈ S :: wr := fun b hb => List.mem_cons_of_mem _ hb
  intro k
  induction k with
  | zero =>
    intro i s hk hi hst hS hR
    have hin : i = n := by omega
    subst hin
    refine codeAny_builtin PyProof.Rows.F.entry_set_update_loop ?_
    rw [Around.under_plainId PyProof.Rows.F.plain_set_update_loop _]
    show wpAny _ A.in1 (pyNext (.ref I) >>= _) _ _ s
    refine wpAny_bind (W.done s _ _ hst fun s' hm => ?_)
    show wpAny _ A.in1 (ret Value.none) _ _ s'
    obtain ⟨m, hm1, hS⟩ := hS
    exact wpAny_pure (hR s' (hm.mono hsub) ⟨m, hm1, hS.at fun o e => hm.heap S _ hSw e⟩)
  | succ k ih =>
    intro i s hk hi hst hS hR
    have hlt : i < n := by omega
    refine codeAny_builtin PyProof.Rows.F.entry_set_update_loop ?_
    rw [Around.under_plainId PyProof.Rows.F.plain_set_update_loop _]
    show wpAny _ A.in1 (pyNext (.ref I) >>= _) _ _ s
    refine wpAny_bind (W.item i s _ _ hlt hst fun v s' hP hst' hm => ?_)
    obtain ⟨t, rfl⟩ := hval i v hP
    obtain ⟨m, hm1, hS⟩ := hS
    have hS' := hS.at (h' := s'.heap) fun o e => hm.heap S _ hSw e
    show wpAny _ A.in1 (holding [Value.str (xs.getD i Str.empty) t] (setAdd S (.str (xs.getD i Str.empty) t)) >>= _) _ _ s'
    refine wpAny_bind (wpAny_holding ?_)
    unfold setAdd
    refine wpAny_holding ?_
    refine wpAny_bind ((PySem.strKind prog w).pyHash (k := xs.getD i Str.empty) (strKind_is _ _ _ _) ?_)
    refine setS_add_hashed (P := prog) (s := { s' with toks := s'.toks + 1 }) hS' (by omega) fun h' hsb hS2 => ?_
    have hSi : ∃ m, m ≤ i + 1 ∧ SetS w h' S (fun k' => decide (k' ∈ xs.take (i + 1))) m := by
      refine ⟨_, ?_, hS2.congr fun k' => ?_⟩
      · split <;> omega
      · have hx : i < xs.length := by omega
        rw [List.take_succ, List.getElem?_eq_getElem hx]
        have : xs.getD i Str.empty = xs[i] := by simp [List.getD, List.getElem?_eq_getElem hx]
        rw [this]
        rw [Bool.eq_iff_iff]
        simp only [List.mem_append, Option.toList, List.mem_singleton, decide_eq_true_eq, Bool.or_eq_true]
    refine wpAny_pure ⟨plainId_quiet PyProof.Rows.F.plain_set_update_loop _, ih (i + 1) _ (by omega) hlt (W.frame _ s' _ _ hst' (Nat.le_succ _) fun b hb o e => ?_) hSi fun s'' hm'' hS'' => ?_⟩
    · rw [hsb.2 b (fun h : b = S => hSf (by rw [← h]; exact hb))]; exact e
    · refine hR s'' (Moved.trans W.gtrans ((hm.mono hsub).then_heap (Nat.le_succ _) fun b o hb e => ?_) hm'') hS''
      rw [hsb.2 b (fun h : b = S => hb (by rw [h]; exact List.mem_cons_self))]; exact e
end
end TX
set_option Elab.async false
set_option linter.all false
set_option maxRecDepth 100000
set_option maxHeartbeats 2000000
/-! a set's table laid anew, masks up to 255 -/
namespace TX
open PySem PySem.Spec PyProof.Rows L2
/-- the masks that come -/
def MaskQ (m : Nat) : Prop := m = 7 ∨ m = 15 ∨ m = 31 ∨ m = 63 ∨ m = 127 ∨ m = 255
def lcgS (m : Nat) : Nat → Nat → List Nat
  | 0, _ => []
  | n + 1, i => i :: lcgS m n ((i * 5 + 1) % (m + 1))
theorem lcgS_get (m : Nat) : ∀ (n b i : Nat), b < n → (lcgS m n i)[b]? = some (lcgI m i b)
  | 0, b, i, h => absurd h (Nat.not_lt_zero _)
  | n + 1, 0, i, h => rfl
  | n + 1, b + 1, i, h => by
    show (lcgS m n ((i * 5 + 1) % (m + 1)))[b]? = _
    rw [lcgS_get m n b _ (by omega)]
    have sh : ∀ b i, lcgI m ((i * 5 + 1) % (m + 1)) b = lcgI m i (b + 1) := by
      intro b i
      induction b with
      | zero => rfl
      | succ b ih => show (lcgI m ((i * 5 + 1) % (m + 1)) b * 5 + 1) % (m + 1) = (lcgI m i (b + 1) * 5 + 1) % (m + 1); rw [ih]
    rw [sh]
theorem lcgN_I (m : Nat) : ∀ b, lcgN m b = lcgI m 0 b
  | 0 => rfl
  | b + 1 => by show (lcgN m b * 5 + 1) % (m + 1) = (lcgI m 0 b * 5 + 1) % (m + 1); rw [lcgN_I m b]
theorem lcg_all {m : Nat} (hm : MaskQ m) {j : Nat} (hj : j ≤ m) : ∃ b, b ≤ m ∧ lcgN m b = j := by
  have key : ∀ n : Nat, ((List.range (n + 1)).all fun j => (lcgS n (n + 1) 0).contains j) = true → ∀ j, j ≤ n → ∃ b, b ≤ n ∧ lcgN n b = j := by
    intro n h j hj
    have h1 := List.all_eq_true.mp h j (List.mem_range.mpr (Nat.lt_succ_of_le hj))
    have h2 : j ∈ lcgS n (n + 1) 0 := by simpa using h1
    obtain ⟨b, hb⟩ := List.mem_iff_getElem?.mp h2
    have len : ∀ n i, (lcgS m n i).length = n := by
      intro n
      induction n with
      | zero => intro i; rfl
      | succ n ih => intro i; show (lcgS m n _).length + 1 = _; rw [ih]
    have len : ∀ k i, (lcgS n k i).length = k := by
      intro k
      induction k with
      | zero => intro i; rfl
      | succ k ih => intro i; show (lcgS n k _).length + 1 = _; rw [ih]
    have hb2 : b < n + 1 := by
      have := (List.getElem?_eq_some_iff.mp hb).1
      rw [len] at this
      exact this
    rw [lcgS_get n (n + 1) b 0 hb2] at hb
    exact ⟨b, by omega, by rw [lcgN_I]; exact Option.some.inj hb⟩
  rcases hm with e | e | e | e | e | e <;> subst e <;> exact key _ (by decide +kernel) j hj
theorem lcg_round {m : Nat} (hm : MaskQ m) : lcgN m (m + 1) = 0 := by
  rcases hm with e | e | e | e | e | e <;> subst e <;> decide +kernel

theorem lcgN_mod {m : Nat} (hm : MaskQ m) : ∀ k, lcgN m (m + 1 + k) = lcgN m k
  | 0 => lcg_round hm
  | k + 1 => by
    show (lcgN m (m + 1 + k) * 5 + 1) % (m + 1) = (lcgN m k * 5 + 1) % (m + 1)
    rw [lcgN_mod hm k]
/-- from anywhere each slot is met within a round -/
theorem lcgI_all {m : Nat} (hm : MaskQ m) {i j : Nat} (hi : i ≤ m) (hj : j ≤ m) : ∃ k, k ≤ m ∧ lcgI m i k = j := by
  obtain ⟨a, ha, ea⟩ := lcg_all hm hi
  obtain ⟨b, hb, eb⟩ := lcg_all hm hj
  rw [← ea]
  rcases Nat.lt_or_ge b a with c | c
  · refine ⟨b + (m + 1) - a, by omega, ?_⟩
    rw [lcgN_add]
    have e : a + (b + (m + 1) - a) = m + 1 + b := by omega
    rw [e, lcgN_mod hm, eb]
  · refine ⟨b - a, by omega, ?_⟩
    rw [lcgN_add]
    have e : a + (b - a) = b := by omega
    rw [e, eb]

/-- each slot begins a run early enough -/
theorem run_meets {m : Nat} (hm : MaskQ m) (h : Int) {j : Nat} (hj : j ≤ m) : ∃ n, n ≤ m + 12 ∧ runI m (SetTable.bits h) n = j := by
  obtain ⟨k, hk, e⟩ := lcgI_all hm (runI_le m (SetTable.bits h) 12) hj
  exact ⟨12 + k, by omega, by rw [runI_tail (bits_lt h)]; exact e⟩
theorem way_leQ {m : Nat} {h : Int} {k : Nat} : way m h k ≤ m := by
  have hi : SetTable.bits h % (m + 1) ≤ m := Nat.le_of_lt_succ (Nat.mod_lt _ (Nat.succ_pos _))
  have r := runEnd_bd hi
  have q := nth_in (m := m) k (runAt m (SetTable.bits h % (m + 1)) (SetTable.bits h)) (by
    show SetTable.bits h % (m + 1) + (SetTable.runEnd m (SetTable.bits h % (m + 1)) - SetTable.bits h % (m + 1)) ≤ m
    omega)
  show (nth m (runAt m (SetTable.bits h % (m + 1)) (SetTable.bits h)) k).j ≤ m
  omega
/-- a free slot is found, at the first free place of the way -/
theorem free_find {m : Nat} (hm : MaskQ m) (owner : Array (Option Nat)) (h : Int) {j : Nat} (hj : j ≤ m) (hf : oAt owner j = none) :
    ∃ K, SetTable.layClean.free m owner (SetTable.turns m) (SetTable.bits h % (m + 1)) (SetTable.bits h) = some (way m h K) ∧ oAt owner (way m h K) = none ∧ ∀ k, k < K → oAt owner (way m h k) ≠ none := by
  obtain ⟨n, hn, e⟩ := run_meets hm h hj
  have hw : way m h (off m (SetTable.bits h % (m + 1)) (SetTable.bits h) n) = j := by
    show (nth m (runAt m (SetTable.bits h % (m + 1)) (SetTable.bits h)) (off m (SetTable.bits h % (m + 1)) (SetTable.bits h) n)).j = j
    rw [nth_off, itL_run]
    exact e
  obtain ⟨K, k1, k2, k3⟩ := st_least (p := fun k => oAt owner (way m h k) = none) (off m (SetTable.bits h % (m + 1)) (SetTable.bits h) n) (by
    show oAt owner (way m h (off m (SetTable.bits h % (m + 1)) (SetTable.bits h) n)) = none
    rw [show way m h (off m (SetTable.bits h % (m + 1)) (SetTable.bits h) n) = j from hw]
    exact hf)
  refine ⟨K, ?_, k2, k3⟩
  refine free_spec m owner (SetTable.turns m) n _ _ K (by unfold SetTable.turns; omega) k1 (fun k hk => ?_) ?_
  · have q := k3 k hk
    cases z : oAt owner (nth m (runAt m (SetTable.bits h % (m + 1)) (SetTable.bits h)) k).j with
    | none => exact absurd z q
    | some _ => rfl
  · have q : oAt owner (nth m (runAt m (SetTable.bits h % (m + 1)) (SetTable.bits h)) K).j = none := k2
    rw [q] <;> rfl

theorem ownStep {m : Nat} (hm : MaskQ m) {done : List Int} {owner : Array (Option Nat)} (W : Own m done owner) (hl : done.length ≤ m) (h : Int) :
    ∃ j, SetTable.layClean.free m owner (SetTable.turns m) (SetTable.bits h % (m + 1)) (SetTable.bits h) = some j ∧ Own m (done ++ [h]) (owner.setIfInBounds j (some done.length)) := by
  obtain ⟨ps, hps, hin⟩ := W.ps
  obtain ⟨j0, h0, hn0⟩ := st_missing ps (m + 1) (by omega)
  have hj0 : oAt owner j0 = none := by
    cases z : oAt owner j0 with
    | none => rfl
    | some k => exact absurd (hin j0 (Nat.le_of_lt_succ h0) (by rw [z]; exact fun e => nomatch e)) hn0
  obtain ⟨K, e1, e2, e3⟩ := free_find hm owner h (Nat.le_of_lt_succ h0) hj0
  have hjm : way m h K ≤ m := way_leQ
  have hjs : way m h K < owner.size := by
    rw [W.sz]
    exact Nat.lt_succ_of_le hjm
  refine ⟨way m h K, e1, ?_⟩
  have hself := oAt_set_self (some done.length) hjs
  have mono : ∀ {i : Nat}, oAt owner i ≠ none → oAt (owner.setIfInBounds (way m h K) (some done.length)) i ≠ none := fun {i} hi => by
    by_cases c : i = way m h K
    · rw [c, hself]
      exact fun e => nomatch e
    · rw [oAt_set_ne _ c]
      exact hi
  refine ⟨by rw [Array.size_setIfInBounds]; exact W.sz, fun j k hj e => ?_, fun k hk => ?_, ⟨way m h K :: ps, by rw [List.length_cons, List.length_append, hps] <;> rfl, fun j hj e => ?_⟩⟩
  · by_cases c : j = way m h K
    · rw [c, hself] at e
      have ek : done.length = k := Option.some.inj e
      refine ⟨h, K, ?_, c.symm, fun k' hk' => mono (e3 k' hk')⟩
      rw [← ek, List.getElem?_append_right (Nat.le_refl _), Nat.sub_self] <;> rfl
    · rw [oAt_set_ne _ c] at e
      obtain ⟨h', K', a1, a2, a3⟩ := W.at_ j k hj e
      refine ⟨h', K', ?_, a2, fun k' hk' => mono (a3 k' hk')⟩
      rw [List.getElem?_append_left (List.getElem?_eq_some_iff.mp a1).1]
      exact a1
  · rw [List.length_append, List.length_singleton] at hk
    by_cases c : k < done.length
    · obtain ⟨j, hj, e⟩ := W.all k c
      refine ⟨j, hj, ?_⟩
      rw [oAt_set_ne _ (fun z => by rw [z, e2] at e; cases e)]
      exact e
    · have ek : k = done.length := by omega
      rw [ek]
      exact ⟨way m h K, hjm, hself⟩
  · by_cases c : j = way m h K
    · rw [c]
      exact List.mem_cons_self
    · rw [oAt_set_ne _ c] at e
      exact List.mem_cons_of_mem _ (hin j hj e)

theorem fold_ok {m : Nat} (hm : MaskQ m) : ∀ (rest done : List Int) (owner : Array (Option Nat)), Own m done owner → done.length + rest.length ≤ m →
    ∃ owner', rest.foldl (stepF m) (some (owner, done.length)) = some (owner', (done ++ rest).length) ∧ Own m (done ++ rest) owner'
  | [], done, owner, W, _ => ⟨owner, by rw [List.append_nil] <;> rfl, by rw [List.append_nil]; exact W⟩
  | h :: rest, done, owner, W, hl => by
    rw [List.length_cons] at hl
    obtain ⟨j, e, W'⟩ := ownStep hm W (by omega) h
    have hl' : (done ++ [h]).length = done.length + 1 := by rw [List.length_append] <;> rfl
    obtain ⟨owner', f, W2⟩ := fold_ok hm rest (done ++ [h]) _ W' (by rw [hl']; omega)
    have ea : done ++ [h] ++ rest = done ++ h :: rest := by rw [List.append_assoc] <;> rfl
    rw [ea, hl'] at f
    rw [ea] at W2
    refine ⟨owner', ?_, W2⟩
    rw [List.foldl_cons, stepF_some e]
    exact f
theorem layClean_ok {m : Nat} (hm : MaskQ m) {hs : Array Int} (hn : hs.size ≤ m) : ∃ owner, SetTable.layClean m hs = some owner ∧ Own m hs.toList owner := by
  obtain ⟨owner, f, W⟩ := fold_ok hm hs.toList [] _ (Own.init m) (by rw [Array.length_toList]; show 0 + hs.size ≤ m; omega)
  rw [List.nil_append] at W
  refine ⟨owner, ?_, W⟩
  rw [layClean_eq]
  have f' : hs.toList.foldl (stepF m) (some (Array.replicate (m + 1) none, 0)) = some (owner, ([] ++ hs.toList).length) := f
  rw [f'] <;> rfl

theorem relaid_ok (t : SetTable) {hs : Array Int} {wanted M : Nat} (hw : SetTable.sizeAbove wanted - 1 = M) (hM : MaskQ M) (hn : hs.size ≤ M) :
    ∃ t' order, t.relaid hs wanted = some (t', order) ∧ order.toList.Perm (List.range hs.size) ∧ Ris t'.place.toList ∧ t'.place.size = hs.size ∧ t'.mask = M ∧ t'.led = t.led ∧ t'.plain = t.plain ∧ t'.dummies = #[] := by
  obtain ⟨owner, e, W⟩ := layClean_ok hM hn
  have hr : t.relaid hs wanted = some (tabOf t M owner, ((liveOf M owner).map (·.2)).toArray) := by
    rw [relaid_eq, hw, e] <;> rfl
  have ris := ris_live (fun j => owner.getD j none) (List.range (M + 1)) (by
    unfold Ris
    first | exact List.pairwise_lt_range | exact List.pairwise_lt_range _)
  have r1 : Ris ((liveOf M owner).map (·.1)) := ris.1
  have r2 : ∀ x ∈ (liveOf M owner).map (·.1), x ∈ List.range (M + 1) := ris.2
  have nd : ((liveOf M owner).map (·.1)).Nodup := List.Pairwise.imp (fun h => Nat.ne_of_lt h) r1
  have hlen : (liveOf M owner).length = hs.size := by
    obtain ⟨ps, p1, p2⟩ := W.ps
    have a := nat_nodup_len ((liveOf M owner).map (·.1)) ps nd fun x hx => by
      obtain ⟨q, hq, eq1⟩ := List.mem_map.mp hx
      obtain ⟨y, k⟩ := q
      have ey : y = x := eq1
      subst ey
      obtain ⟨b1, b2⟩ := (mem_live W.sz).1 hq
      exact p2 y b1 (by rw [b2]; exact fun z => nomatch z)
    have b := nat_nodup_len (List.range hs.size) ((liveOf M owner).map (·.2)) List.nodup_range fun k hk => by
      obtain ⟨j, b1, b2⟩ := W.all k (by rw [Array.length_toList]; exact List.mem_range.mp hk)
      exact List.mem_map.mpr ⟨(j, k), (mem_live W.sz).2 ⟨b1, b2⟩, rfl⟩
    rw [List.length_map, p1] at a
    rw [List.length_map, List.length_range] at b
    have hz : hs.toList.length = hs.size := rfl
    omega
  refine ⟨tabOf t M owner, ((liveOf M owner).map (·.2)).toArray, hr, ?_, r1, ?_, rfl, rfl, rfl, rfl⟩
  · refine perm_range hs.size _ ?_ fun k hk => ?_
    · show ((liveOf M owner).map (·.2)).length = hs.size
      rw [List.length_map]
      exact hlen
    · obtain ⟨j, b1, b2⟩ := W.all k (by rw [Array.length_toList]; exact hk)
      exact List.mem_map.mpr ⟨(j, k), (mem_live W.sz).2 ⟨b1, b2⟩, rfl⟩
  · show ((liveOf M owner).map (·.1)).toArray.size = hs.size
    rw [List.size_toArray, List.length_map, hlen]
end TX
set_option Elab.async false
set_option linter.all false
set_option maxRecDepth 100000
set_option maxHeartbeats 2000000
/-! sets of texts: one put into another; the union -/
namespace TX
open PySem PySem.Spec PyProof.Rows L2
/-- a set of texts, its table in sight -/
def TabS (w : World) (h : Heap) (a : Addr) (es : Array (Int × Value)) (t : SetTable) : Prop :=
  ∃ o ep, h.get? a = some o ∧ o.ExactSet ∧ o.data = .set es ep t ∧ (∀ e ∈ es.toList, GoodS w e) ∧ (es.toList.map keyS).Nodup ∧ es.size < scanBound ∧ t.fits es.size = true ∧ Ris t.place.toList ∧
    (w.params.followText "set-order" = true ∨ t.led = true)
theorem SetS.tab {w : World} {h : Heap} {a : Addr} {S : Str → Bool} {n : Nat} (R : SetS w h a S n) : ∃ es t, TabS w h a es t ∧ (∀ k, S k = true ↔ k ∈ es.toList.map keyS) ∧ es.size = n := by
  obtain ⟨o, es, ep, t, ho, hx, hd, g, nd, hm, hb, hf, hn, hr, hl⟩ := R
  exact ⟨es, t, ⟨o, ep, ho, hx, hd, g, nd, hb, hf, hr, hl⟩, hm, hn⟩
theorem TabS.setS {w : World} {h : Heap} {a : Addr} {es : Array (Int × Value)} {t : SetTable} {S : Str → Bool} (R : TabS w h a es t) (hS : ∀ k, S k = true ↔ k ∈ es.toList.map keyS) : SetS w h a S es.size := by
  obtain ⟨o, ep, ho, hx, hd, g, nd, hb, hf, hr, hl⟩ := R
  exact ⟨o, es, ep, t, ho, hx, hd, g, nd, hS, hb, hf, rfl, hr, hl⟩
theorem TabS.at {w : World} {h h' : Heap} {a : Addr} {es : Array (Int × Value)} {t : SetTable} (R : TabS w h a es t) (k : ∀ o, h.get? a = some o → h'.get? a = some o) : TabS w h' a es t := by
  obtain ⟨o, ep, ho, r⟩ := R
  exact ⟨o, ep, k o ho, r⟩
def sizesOk : Bool := (List.range 256).all fun n => decide (SetTable.sizeAbove n ≤ 256) && (decide (n < SetTable.sizeAbove n) && [7, 15, 31, 63, 127, 255].contains (SetTable.sizeAbove n - 1))
theorem sizes_ok : sizesOk = true := by decide +kernel
theorem maskQ_of {m : Nat} (h : [7, 15, 31, 63, 127, 255].contains m = true) : MaskQ m := by
  simp only [List.contains_eq_mem, List.mem_cons, List.not_mem_nil, or_false, decide_eq_true_eq] at h
  exact h
theorem sizeAbove_ok {n : Nat} (h : n < 256) : SetTable.sizeAbove n ≤ 256 ∧ n < SetTable.sizeAbove n ∧ MaskQ (SetTable.sizeAbove n - 1) := by
  have := List.all_eq_true.mp sizes_ok n (List.mem_range.mpr h)
  simp only [Bool.and_eq_true, decide_eq_true_eq] at this
  exact ⟨this.1, this.2.1, maskQ_of this.2.2⟩
theorem fmap_range (es : Array (Int × Value)) : (List.range es.size).filterMap (fun i => es[i]?) = es.toList := by
  have key2 : ∀ n, n ≤ es.size → (List.range n).filterMap (fun i => es[i]?) = es.toList.take n := by
    intro n
    induction n with
    | zero => intro _; simp
    | succ n ih =>
      intro hn
      have hlt : n < es.toList.length := hn
      have e : es[n]? = some (es.toList[n]) := by rw [← Array.getElem?_toList]; exact List.getElem?_eq_getElem hlt
      rw [List.range_succ, List.filterMap_append, ih (Nat.le_of_lt hn), List.take_succ, List.getElem?_eq_getElem hlt]
      rw [List.filterMap_cons_some e] <;> rfl
  rw [key2 es.size (Nat.le_refl _)]
  exact List.take_length
theorem order_perm {es : Array (Int × Value)} {order : Array Nat} (hp : order.toList.Perm (List.range es.size)) : (order.filterMap (es[·]?)).toList.Perm es.toList := by
  rw [Array.toList_filterMap]
  have := hp.filterMap (fun i => es[i]?)
  rw [fmap_range] at this
  exact this
section
variable {P : Program} {w : World} {A : Around} {E : Value → Shared → Prop} {s : Shared} {a r o : Addr} {es er eo : Array (Int × Value)} {t tr to : SetTable}
theorem TabS.put {o' : Obj} {ep : Nat} {es' : Array (Int × Value)} {t' : SetTable} (ho : s.heap.get? a = some o') (hx : o'.ExactSet) (hd : o'.data = .set es ep t)
    (g : ∀ e ∈ es'.toList, GoodS w e) (nd : (es'.toList.map keyS).Nodup) (hb : es'.size < scanBound) (hf : t'.fits es'.size = true) (hr : Ris t'.place.toList) (hl : w.params.followText "set-order" = true ∨ t'.led = true) :
    TabS w (s.heap.update a (Obj.putSet es' t')) a es' t' := ⟨_, ep + 1, storeS_at ho hd, hx, rfl, g, nd, hb, hf, hr, hl⟩
theorem fits_of {t : SetTable} {n : Nat} (h1 : t.place.size = n) (h2 : t.dummies = #[]) (h3 : n ≤ t.mask) : t.fits n = true := by
  unfold SetTable.fits SetTable.fill
  rw [h2, Bool.and_eq_true, beq_iff_eq, decide_eq_true_eq]
  show t.place.size = n ∧ t.place.size + 0 ≤ t.mask
  omega
/-- the table laid anew -/
theorem relayS {wanted : Nat} {Q : Unit → Shared → Prop} (R : TabS w s.heap a es t) (hw : wanted < 256) (hn : es.size ≤ wanted)
    (hQ : ∀ h' es' t', Heap.SameBut a s.heap h' → TabS w h' a es' t' → es'.toList.Perm es.toList → MaskQ t'.mask → Q () { s with heap := h' }) : wpAny (model P w) A (setRelay a wanted) Q E s := by
  obtain ⟨o, ep, ho, hx, hd, g, nd, hb, hf, hr, hl⟩ := R
  obtain ⟨z1, z2, z3⟩ := sizeAbove_ok hw
  obtain ⟨t', order, e, hp, r1, r2, em, el, ep', ed⟩ := relaid_ok t (hs := es.map (·.1)) (wanted := wanted) rfl z3 (by rw [Array.size_map]; omega)
  rw [Array.size_map] at hp r2
  have pm := order_perm (es := es) hp
  have hs2 : (order.filterMap (es[·]?)).size = es.size := by
    have := pm.length_eq
    rw [Array.length_toList, Array.length_toList] at this
    exact this
  rw [setRelay_eq]
  refine wpAny_bind (wpAny_setState_of ho hd hf ?_)
  dsimp only
  refine wp_if_neg (by rw [sizeLine_eq]; omega) ?_
  try refine wpAny_bind (wpAny_pure ?_)
  rw [e]
  dsimp only
  refine wpAny_bind ?_
  refine wp_if_neg (by rw [hs2]; simp) ?_
  try refine wpAny_bind (wpAny_pure ?_)
  refine wpAny_pure ?_
  dsimp only
  refine wpAny_storeSet_of ho hd ?_ (by rw [hs2]; exact fits_of_scanBound hb)
  refine hQ _ _ t' (Heap.SameBut.update ..) (TabS.put ho hx hd (fun e he => g e (pm.mem_iff.mp he)) ((pm.map keyS).nodup_iff.mpr nd) (by rw [hs2]; exact hb) ?_ r1 (hl.imp id fun z => by rw [el]; exact z)) pm (by rw [em]; exact z3)
  rw [hs2]
  exact fits_of r2 ed (by rw [em]; omega)
theorem roomS {more : Nat} {Q : Unit → Shared → Prop} (R : TabS w s.heap a es t) (hw : (es.size + more) * 2 < 256)
    (hQ : ∀ h' es' t', Heap.SameBut a s.heap h' → TabS w h' a es' t' → es'.toList.Perm es.toList → (MaskQ t.mask → MaskQ t'.mask) → (t.roomFor more = none → t' = t ∧ es' = es) → ((t.roomFor more).isSome → es.size + more ≤ t'.mask) → Q () { s with heap := h' }) : wpAny (model P w) A (setRoomFor a more) Q E s := by
  obtain ⟨o, ep, ho, hx, hd, g, nd, hb, hf, hr, hl⟩ := id R
  have hp : t.place.size = es.size := by
    simp only [SetTable.fits, Bool.and_eq_true, beq_iff_eq] at hf
    exact hf.1
  unfold setRoomFor
  refine wpAny_bind (wpAny_setState_of ho hd hf ?_)
  dsimp only
  cases hc : t.roomFor more with
  | none => exact wpAny_pure (hQ s.heap es t (Heap.SameBut.refl a s.heap) R (List.Perm.refl _) id (fun _ => ⟨rfl, rfl⟩) (fun z => by rw [hc] at z; cases z))
  | some wanted =>
    have e : wanted = (es.size + more) * 2 := by
      unfold SetTable.roomFor at hc
      split at hc
      · rw [← Option.some.inj hc, hp]
      · cases hc
    subst e
    obtain ⟨z1, z2, z3⟩ := sizeAbove_ok hw
    obtain ⟨t', order, e, hp', r1, r2, em, el, ep', ed⟩ := relaid_ok t (hs := es.map (·.1)) (wanted := (es.size + more) * 2) rfl z3 (by rw [Array.size_map]; omega)
    rw [Array.size_map] at hp' r2
    have pm := order_perm (es := es) hp'
    have hs2 : (order.filterMap (es[·]?)).size = es.size := by
      have := pm.length_eq
      rw [Array.length_toList, Array.length_toList] at this
      exact this
    dsimp only
    rw [setRelay_eq]
    refine wpAny_bind (wpAny_setState_of ho hd hf ?_)
    dsimp only
    refine wp_if_neg (by rw [sizeLine_eq]; omega) ?_
    try refine wpAny_bind (wpAny_pure ?_)
    rw [e]
    dsimp only
    refine wpAny_bind ?_
    refine wp_if_neg (by rw [hs2]; simp) ?_
    try refine wpAny_bind (wpAny_pure ?_)
    refine wpAny_pure ?_
    dsimp only
    refine wpAny_storeSet_of ho hd ?_ (by rw [hs2]; exact fits_of_scanBound hb)
    refine hQ _ _ t' (Heap.SameBut.update ..) (TabS.put ho hx hd (fun e he => g e (pm.mem_iff.mp he)) ((pm.map keyS).nodup_iff.mpr nd) (by rw [hs2]; exact hb) ?_ r1 (hl.imp id fun z => by rw [el]; exact z)) pm (fun _ => by rw [em]; exact z3) (fun z => by rw [hc] at z; cases z) (fun _ => by rw [em]; omega)
    rw [hs2]
    exact fits_of r2 ed (by rw [em]; omega)
/-! ### the walk of a set into another -/
theorem quietS {l : List Addr} {Q : Bool → Shared → Prop} (hl : ∀ b ∈ l, ∃ es t, TabS w s.heap b es t) (h : Q true s) : wpAny (model P w) A (setsQuiet l) Q E s := by
  unfold setsQuiet
  refine wpAny_bind (wpAny_forIn_list _ (fun rest b s' => b.1 = none ∧ s' = s ∧ ∀ c ∈ rest, ∃ es t, TabS w s.heap c es t) _ ?_ ?_ l _ ⟨rfl, rfl, hl⟩)
  · rintro c rest b s' ⟨hb, rfl, hr⟩
    obtain ⟨es, t, o, ep, ho, hx, hd, g, nd, hb', hf, _⟩ := hr c List.mem_cons_self
    refine wpAny_bind (wpAny_setEntries_of ho hd hf ?_)
    refine wpAny_bind (MeetsSeq2.wpAny_forIn_array _ (fun rest b s2 => b.1 = none ∧ s2 = s' ∧ ∀ e ∈ rest, GoodS w e) _ ?_ ?_ es _ ⟨rfl, rfl, g⟩)
    · rintro e r2 b2 s2 ⟨hb2, rfl, hg⟩
      obtain ⟨k, tk, h1, _⟩ := hg e List.mem_cons_self
      obtain ⟨hh, x⟩ := e
      dsimp only at h1
      subst h1
      dsimp only
      first
        | exact wpAny_pure ⟨rfl, rfl, fun e he => hg e (List.mem_cons_of_mem _ he)⟩
        | exact wpAny_bind (wpAny_pure (wpAny_pure ⟨rfl, rfl, fun e he => hg e (List.mem_cons_of_mem _ he)⟩))
    · rintro b2 s2 ⟨hb2, rfl, _⟩
      dsimp only
      rw [hb2]
      exact wpAny_pure ⟨rfl, rfl, fun c hc => hr c (List.mem_cons_of_mem _ hc)⟩
  · rintro b s' ⟨hb, rfl, _⟩
    dsimp only
    rw [hb]
    exact wpAny_pure h
theorem walkS {Q : Array (Int × Value) → Shared → Prop} (R : TabS w s.heap a es t) (hc : w.params.followText "set-order" = true ∨ (t.led = true ∧ t.plain = true) ∨ es.size ≤ 1)
    (hQ : ∀ out : Array (Int × Value), out.toList.Perm es.toList → Q out s) : wpAny (model P w) A (setWalk a) Q E s := by
  obtain ⟨o, ep, ho, hx, hd, g, nd, hb, hf, hr, hl⟩ := R
  unfold setWalk
  refine wpAny_bind (wpAny_setState_of ho hd hf ?_)
  dsimp only
  refine wpAny_bind (wpAny_byText ?_)
  cases hbt : w.params.followText "set-order" with
  | true =>
    refine wp_if_pos rfl ?_
    exact wpAny_bind (wpAny_askSetting (wpAny_pure (hQ _ (pick_perm _ _))))
  | false =>
    refine wp_if_neg Bool.false_ne_true ?_
    try refine wpAny_bind (wpAny_pure ?_)
    have hc' : (t.led = true ∧ t.plain = true) ∨ es.size ≤ 1 := hc.resolve_left (by rw [hbt]; exact Bool.false_ne_true)
    have hdr : (!t.plain && decide (es.size > 1)) = false := by
      rcases hc' with ⟨_, e⟩ | e
      · rw [e]; rfl
      · rw [decide_eq_false (by omega), Bool.and_false]
    refine wp_if_neg (by show ¬ ((!t.plain && decide (es.size > 1)) = true); rw [hdr]; exact Bool.false_ne_true) ?_
    try refine wpAny_bind (wpAny_pure ?_)
    refine wpAny_bind (wpAny_of_eq (a := ()) ?_ ?_)
    · show (if (!t.led && decide (es.size > 1)) = true then unsupported "set:maker-not-led" else pure ()) = pure ()
      rw [if_neg]
      rcases hc' with ⟨e, _⟩ | e
      · rw [e]; simp
      · rw [decide_eq_false (by omega), Bool.and_false]; exact Bool.false_ne_true
    · exact wpAny_pure (hQ _ (List.Perm.refl _))
theorem walkUnseenS {Q : Array (Int × Value) → Shared → Prop} (R : TabS w s.heap r er tr) (T : TabS w s.heap o eo to) (ne : r ≠ o)
    (hQ : ∀ (out : Array (Int × Value)) h' tr', out.toList.Perm eo.toList → Heap.SameBut r s.heap h' → TabS w h' r er tr' → Q out { s with heap := h' }) : wpAny (model P w) A (setWalkUnseen o [r] (some r)) Q E s := by
  obtain ⟨oo, epo, hoo, hxo, hdo, go, ndo, hbo, hfo, hro, hlo⟩ := id T
  unfold setWalkUnseen
  refine wpAny_bind (wpAny_setState_of hoo hdo hfo ?_)
  dsimp only
  refine wpAny_bind (wpAny_byText ?_)
  split
  · rename_i hc
    simp only [Bool.or_eq_true, Bool.and_eq_true, decide_eq_true_eq] at hc
    refine walkS T ?_ fun out p => hQ out s.heap tr p (Heap.SameBut.refl r s.heap) R
    rcases hc with (hc | hc) | hc
    · exact .inl hc
    · exact .inr (.inl hc)
    · exact .inr (.inr hc)
  · try refine wpAny_bind (wpAny_pure ?_)
    refine wpAny_bind (quietS (fun b hb => ?_) ?_)
    · rcases List.mem_cons.mp hb with e | e
      · subst e; exact ⟨_, _, T⟩
      · obtain rfl := List.mem_singleton.mp e
        exact ⟨_, _, R⟩
    refine wp_if_neg (by simp) ?_
    try refine wpAny_bind (wpAny_pure ?_)
    refine wpAny_bind (wpAny_rule ?_)
    obtain ⟨orr, epr, hor, hxr, hdr, gr, ndr, hbr, hfr, hrr, hlr⟩ := id R
    refine wpAny_bind (wpAny_setState_of hor hdr hfr ?_)
    dsimp only
    split
    · refine wpAny_bind (wpAny_storeSet_of hor hdr ?_ (fits_of_scanBound hbr))
      refine wpAny_pure (hQ eo _ _ (List.Perm.refl _) (Heap.SameBut.update ..) (TabS.put hor hxr hdr gr ndr hbr hfr hrr ?_))
      rcases hlr with z | z
      · exact .inl z
      · rcases hlo with z2 | z2
        · exact .inl z2
        · exact .inr (by show (tr.led && to.led) = true; rw [z, z2]; rfl)
    · first
        | exact wpAny_pure (hQ eo s.heap tr (List.Perm.refl _) (Heap.SameBut.refl r s.heap) R)
        | exact wpAny_bind (wpAny_pure (wpAny_pure (hQ eo s.heap tr (List.Perm.refl _) (Heap.SameBut.refl r s.heap) R)))
end
end TX
set_option Elab.async false
set_option linter.all false
set_option maxRecDepth 100000
set_option maxHeartbeats 2000000
namespace TX
open PySem PySem.Spec PyProof.Rows L2
theorem laid_ok {m f mv : Nat} {led plain : Bool} {hs : Array Int} (hM : MaskQ m) (hn : hs.size ≤ m) :
    ∃ t' order, SetTable.laid m f mv led plain hs = some (t', order) ∧ order.toList.Perm (List.range hs.size) ∧ Ris t'.place.toList ∧ t'.place.size = hs.size ∧ t'.mask = m ∧ t'.led = led ∧ t'.dummies = #[] := by
  obtain ⟨owner, e, _⟩ := layClean_ok hM hn
  have h1 : SetTable.laid m f mv led plain hs = some ({ mask := m, place := ((liveOf m owner).map (·.1)).toArray, dummies := #[], finger := f, led, moves := mv, plain }, ((liveOf m owner).map (·.2)).toArray) := by
    show (SetTable.layClean m hs).bind _ = _
    rw [e]
    rfl
  have hw : SetTable.sizeAbove m - 1 = m := by
    rcases hM with e | e | e | e | e | e <;> subst e <;> decide +kernel
  obtain ⟨t', order, e2, q1, q2, q3, q4, q5, q6, q7⟩ := relaid_ok (SetTable.fresh 0 0 true) (wanted := m) hw hM hn
  have h2 : (SetTable.fresh 0 0 true).relaid hs m = some (tabOf (SetTable.fresh 0 0 true) m owner, ((liveOf m owner).map (·.2)).toArray) := by
    rw [relaid_eq, hw, e]
    rfl
  rw [h2] at e2
  obtain ⟨e3, e4⟩ := Prod.mk.inj (Option.some.inj e2)
  subst e3 e4
  exact ⟨_, _, h1, q1, q2, q3, rfl, rfl, rfl⟩
theorem setMerge_eq (s o : Addr) (each : Sem Unit) : setMerge s o each = (do
    if s == o then return
    let (eo, epoch, to) ← setState o
    if eo.isEmpty then return
    setRoomFor s eo.size
    let (_, _, ts) ← setState s
    match ts.road to with
    | .slotForSlot => storeSet s eo { to with finger := ts.finger, led := ts.led && to.led, moves := ts.moves, plain := ts.plain && to.plain }
    | .clean =>
      let (es, t) ← (do
        let some (t, order) := SetTable.laid ts.mask ts.finger ts.moves (led := ts.led && to.led) (plain := ts.plain && to.plain) (eo.map (·.1)) | unsupported "internal:set-table-without-room"
        let es' := order.filterMap (eo[·]?)
        if es'.size != eo.size then unsupported "internal:set-table-lost-an-element"
        pure (es', t) : Sem (Array (Int × Value) × SetTable))
      storeSet s es t
    | .oneByOne =>
      for (h, x) in ← setWalkUnseen o [s] (some s) do
        let _ ← holding [x] (setAddHashed s x h)
        each
        if (← setState o).2.1 != epoch then unsupported "set.changed-during-merge") := by rfl
section
variable {P : Program} {w : World} {A : Around} {E : Value → Shared → Prop} {s : Shared} {a r o : Addr} {es er eo : Array (Int × Value)} {t tr to : SetTable}
theorem TabS.place (R : TabS w s.heap a es t) : t.place.size = es.size := by
  obtain ⟨o, ep, ho, hx, hd, g, nd, hb, hf, hr, hl⟩ := R
  simp only [SetTable.fits, Bool.and_eq_true, beq_iff_eq] at hf
  exact hf.1
theorem TabS.good (R : TabS w s.heap a es t) : ∀ e ∈ es.toList, GoodS w e := by
  obtain ⟨o, ep, ho, hx, hd, g, _⟩ := R
  exact g
theorem nil_of {es : Array (Int × Value)} (h : es.size = 0) : es.toList = [] := by
  have : es.toList.length = 0 := h
  exact List.length_eq_zero_iff.mp this
/-- r takes in what o has -/
theorem mergeS {each : Sem Unit} {Q : Unit → Shared → Prop} (R : TabS w s.heap r er tr) (T : TabS w s.heap o eo to) (ne : r ≠ o) (hm : er.size = 0 → MaskQ tr.mask) (few : (er.size + eo.size) * 2 < 256)
    (hE : ∀ (s1 : Shared) (Q1 : Unit → Shared → Prop), s1.heap.get? o = s.heap.get? o → Q1 () s1 → wpAny (model P w) A each Q1 E s1)
    (hQ : ∀ h' er' tr', Heap.SameBut r s.heap h' → TabS w h' r er' tr' → (∀ k, k ∈ er'.toList.map keyS ↔ k ∈ er.toList.map keyS ∨ k ∈ eo.toList.map keyS) → (er'.size = 0 → MaskQ tr'.mask) → er'.size ≤ er.size + eo.size → Q () { s with heap := h' }) :
    wpAny (model P w) A (setMerge r o each) Q E s := by
  obtain ⟨oo, epo, hoo, hxo, hdo, go, ndo, hbo, hfo, hro, hlo⟩ := id T
  rw [setMerge_eq]
  refine wp_if_neg (by simpa using ne) ?_
  try refine wpAny_bind (wpAny_pure ?_)
  refine wpAny_bind (wpAny_setState_of hoo hdo hfo ?_)
  dsimp only
  by_cases hemp : eo.isEmpty = true
  · refine wp_if_pos hemp ?_
    have z : eo.size = 0 := by simpa using hemp
    exact wpAny_pure (hQ s.heap er tr (Heap.SameBut.refl r s.heap) R (fun k => by rw [nil_of z]; simp) hm (by omega))
  refine wp_if_neg hemp ?_
  try refine wpAny_bind (wpAny_pure ?_)
  have hpos : 0 < eo.size := by
    rcases Nat.eq_zero_or_pos eo.size with z | z
    · exact absurd (by simpa using z) hemp
    · exact z
  refine wpAny_bind (roomS R few fun h1 er1 tr1 sb1 R1 pm1 mq1 nq1 bq1 => ?_)
  have T1 : TabS w h1 o eo to := T.at fun u e => (sb1.2 o (Ne.symm ne)).trans e
  have T1' := T1
  obtain ⟨o1, ep1, ho1, hx1, hd1, g1, nd1, hb1, hf1, hr1, hl1⟩ := id R1
  have pl1 := TabS.place (s := { s with heap := h1 }) R1
  have sz1 : er1.size = er.size := by
    have := pm1.length_eq
    rw [Array.length_toList, Array.length_toList] at this
    exact this
  have mem1 : ∀ k, k ∈ er1.toList.map keyS ↔ k ∈ er.toList.map keyS := fun k => (pm1.map keyS).mem_iff
  refine wpAny_bind (wpAny_setState_of (s := { s with heap := h1 }) ho1 hd1 hf1 ?_)
  dsimp only
  have hfill : tr1.fill = 0 → er1.size = 0 := fun z => by
    unfold SetTable.fill at z
    omega
  have led2 : w.params.followText "set-order" = true ∨ (tr1.led && to.led) = true := by
    rcases hl1 with z | z
    · exact .inl z
    · rcases hlo with z2 | z2
      · exact .inl z2
      · exact .inr (by rw [z, z2]; rfl)
  cases hroad : tr1.road to with
  | slotForSlot =>
    dsimp only
    have hz : er1.size = 0 := by
      unfold SetTable.road at hroad
      split at hroad
      · cases hroad
      · rename_i h; exact hfill (by simpa using h)
    have hmk : tr1.mask = to.mask := by
      unfold SetTable.road at hroad
      split at hroad
      · cases hroad
      · split at hroad
        · rename_i h; simp only [Bool.and_eq_true, beq_iff_eq] at h; exact h.1
        · cases hroad
    refine wpAny_storeSet_of (s := { s with heap := h1 }) ho1 hd1 ?_ (fits_of_scanBound hbo)
    refine hQ _ eo _ (sb1.trans (Heap.SameBut.update _ r _)) (TabS.put (s := { s with heap := h1 }) ho1 hx1 hd1 go ndo hbo hfo hro led2) (fun k => ?_) (fun z => by omega) (by omega)
    rw [← mem1, nil_of hz]
    simp
  | clean =>
    dsimp only
    have hz : er1.size = 0 := by
      unfold SetTable.road at hroad
      split at hroad
      · cases hroad
      · rename_i h; exact hfill (by simpa using h)
    have mq : MaskQ tr1.mask := mq1 (hm (by omega))
    have hle : eo.size ≤ tr1.mask := by
      cases hc : tr.roomFor eo.size with
      | none =>
        obtain ⟨e1, e2⟩ := nq1 hc
        subst e1 e2
        unfold SetTable.roomFor at hc
        split at hc
        · cases hc
        · rename_i h
          simp only [ge_iff_le, Nat.not_le] at h
          omega
      | some v =>
        have := bq1 (by rw [hc]; rfl)
        omega
    obtain ⟨t', order, e, q1, q2, q3, q4, q5, q7⟩ := laid_ok (f := tr1.finger) (mv := tr1.moves) (led := tr1.led && to.led) (plain := tr1.plain && to.plain) (hs := eo.map (·.1)) mq (by rw [Array.size_map]; exact hle)
    rw [Array.size_map] at q1 q3
    have pm := order_perm (es := eo) q1
    have hs2 : (order.filterMap (eo[·]?)).size = eo.size := by
      have := pm.length_eq
      rw [Array.length_toList, Array.length_toList] at this
      exact this
    rw [e]
    dsimp only
    refine wpAny_bind ?_
    refine wp_if_neg (by rw [hs2]; simp) ?_
    try refine wpAny_bind (wpAny_pure ?_)
    refine wpAny_pure ?_
    dsimp only
    refine wpAny_storeSet_of (s := { s with heap := h1 }) ho1 hd1 ?_ (by rw [hs2]; exact fits_of_scanBound hbo)
    refine hQ _ _ t' (sb1.trans (Heap.SameBut.update _ r _)) (TabS.put (s := { s with heap := h1 }) ho1 hx1 hd1 (fun e he => go e (pm.mem_iff.mp he)) ((pm.map keyS).nodup_iff.mpr ndo) (by rw [hs2]; exact hbo) ?_ q2 (led2.imp id fun z => by rw [q5]; exact z)) (fun k => ?_) (fun z => by omega) (by omega)
    · rw [hs2]
      exact fits_of q3 q7 (by rw [q4]; exact hle)
    · rw [← mem1, nil_of hz, (pm.map keyS).mem_iff]
      simp
  | oneByOne =>
    dsimp only
    refine wpAny_bind (walkUnseenS (s := { s with heap := h1 }) R1 T1 ne fun out h2 tr2 po sb2 R2 => ?_)
    have sb12 := sb1.trans sb2
    refine wpAny_bind (MeetsSeq2.wpAny_forIn_array _ (fun rest _ s' => ∃ h' er' tr', s' = { s with heap := h' } ∧ Heap.SameBut r s.heap h' ∧ TabS w h' r er' tr' ∧ er'.size + rest.length ≤ er.size + eo.size ∧ (rest = [] ∨ True) ∧ (er'.size = 0 → rest ≠ []) ∧
      (∀ k, k ∈ er'.toList.map keyS ∨ k ∈ rest.map keyS ↔ k ∈ er.toList.map keyS ∨ k ∈ eo.toList.map keyS) ∧ (∀ e ∈ rest, GoodS w e)) _ ?_ ?_ out _ ⟨h2, er1, tr2, rfl, sb12, R2, ?_, .inr trivial, fun _ z => ?_, fun k => ?_, fun e he => go e (po.mem_iff.mp he)⟩)
    · rintro e rest b s' ⟨h3, er3, tr3, rfl, sb3, R3, hl3, _, _, mem3, g3⟩
      obtain ⟨k, tk, he1, he2⟩ := g3 e List.mem_cons_self
      obtain ⟨hh, x⟩ := e
      dsimp only at he1 he2
      subst he1 he2
      dsimp only
      have S3 := TabS.setS (S := fun k => decide (k ∈ er3.toList.map keyS)) R3 (fun k => by rw [decide_eq_true_eq])
      simp only [List.length_cons] at hl3
      refine wpAny_bind (wpAny_holding (setS_add_hashed (P := P) (s := { s with heap := h3 }) S3 (by unfold scanBound; omega) fun h4 sb4 S4 => ?_))
      have sb34 := sb3.trans sb4
      refine wpAny_bind (hE { s with heap := h4 } _ (sb34.2 o (Ne.symm ne)) ?_)
      have ho4 : h4.get? o = some oo := (sb34.2 o (Ne.symm ne)).trans hoo
      refine wpAny_bind (wpAny_setState_of (s := { s with heap := h4 }) ho4 hdo hfo ?_)
      dsimp only
      refine wp_if_neg (by simp) ?_
      try refine wpAny_bind (wpAny_pure ?_)
      obtain ⟨er4, tr4, R4, m4, n4⟩ := S4.tab
      refine wpAny_pure ⟨h4, er4, tr4, rfl, sb34, R4, ?_, .inr trivial, fun z => ?_, fun k' => ?_, fun e he => g3 e (List.mem_cons_of_mem _ he)⟩
      · rw [n4]
        split <;> omega
      · exfalso
        have := (m4 k).mp (by simp)
        rw [nil_of z] at this
        simp at this
      · rw [← mem3 k', ← m4 k']
        simp only [Bool.or_eq_true, decide_eq_true_eq, List.map_cons, List.mem_cons]
        have ek : keyS (hashStr w k, Value.str k tk) = k := rfl
        rw [ek]
        constructor
        · rintro ((h | h) | h)
          · exact .inl h
          · exact .inr (.inl h)
          · exact .inr (.inr h)
        · rintro (h | h | h)
          · exact .inl (.inl h)
          · exact .inl (.inr h)
          · exact .inr h
    · rintro b s' ⟨h3, er3, tr3, rfl, sb3, R3, hl3, _, nz3, mem3, g3⟩
      exact wpAny_pure (hQ h3 er3 tr3 sb3 R3 (fun k => by rw [← mem3 k]; simp) (fun z => absurd rfl (nz3 z)) (by simpa using hl3))
    · rw [po.length_eq, Array.length_toList]
      omega
    · have := po.length_eq
      rw [z] at this
      simp at this
      omega
    · rw [mem1, (po.map keyS).mem_iff]
end
end TX
set_option Elab.async false
set_option linter.all false
set_option maxRecDepth 100000
set_option maxHeartbeats 2000000
namespace TX
open PySem PySem.Spec PyProof.Rows L2
section
variable {prog : Program} {w : World} {A : Around} {E : Value → Shared → Prop} {s : Shared}
set_option maxHeartbeats 3200000 in
theorem call_set_listS {l : Addr} {items : Array Value} {xs : List Str} {Q : Value → Shared → Prop}
    (hh : A.handled = none) (hl : s.heap.IsList l items) (hi : PyProof.Rows.StrsAre items.toList xs) (hb : items.size + 1 < scanBound)
    (h : ∀ (h' : Heap) (tk : Nat), SetS w h' s.heap.objs.size (fun k' => decide (k' ∈ xs)) (canon xs).length →
      (∀ b o, b < s.heap.objs.size → s.heap.get? b = some o → h'.get? b = some o) → Q (.ref s.heap.objs.size) { s with heap := h', toks := tk }) :
    wpAny (model prog w) A (call (.type "set") [.ref l]) Q E s := by
  obtain ⟨c, tl, hmro⟩ := PySem.F.called_set.mro
  have hmade := PySem.F.called_set.made
  have hsub := PySem.F.called_set.sub
  refine wpAny_call (codeAny_of_tree ?_)
  show wpAny _ _ (callAny (.type "set") _) _ _ _
  refine wpAny_pure ⟨Code.quiet_builtin _ (by decide +kernel), codeAny_builtin PySem.F.entry_type_call ?_⟩
  rw [Around.under_plain (weight_type_call_type "set" [.ref l] []) rfl]
  have h1 := PySem.F.called_set.notType
  have h2 := PySem.F.called_set.canCreate
  have hct := PySem.F.typeCall_set_1 (.ref l)
  repeat (any_goals (first | assumption | wp_step))

  refine codeAny_mono (code_set_led1 (.ref l) (E := E) (Q₁ := fun obj s₁ => ∃ led : Bool, led = (!w.params.followText "set-order") ∧ obj = .ref s.heap.objs.size ∧ s₁ = { s with heap := s.heap.push { cls := .type "set", dict := none, data := .set #[] 0 (.fresh 0 0 led) } }) ⟨_, rfl, rfl, rfl⟩) fun r s₁ hr => ?_
  cases r with
  | error e => exact hr
  | ok fl =>
    cases fl with
    | ret obj =>
      obtain ⟨led, hled, rfl, rfl⟩ := hr
      have hS : (s.heap.push { cls := .type "set", dict := none, data := .set #[] 0 (.fresh 0 0 led) }).get? s.heap.objs.size = some { cls := .type "set", dict := none, data := .set #[] 0 (.fresh 0 0 led) } := Heap.get?_push_size _ rfl
      have hT : Shared.TypeIs { s with heap := s.heap.push { cls := .type "set", dict := none, data := .set #[] 0 (.fresh 0 0 led) } } (.ref s.heap.objs.size) "set" := ⟨_, hS, rfl⟩
      have hli := PySem.F.called_set.init.lookup
      have hbi := PySem.F.called_set.init.bind (.ref s.heap.objs.size)
      repeat (any_goals (first | assumption | wp_step))

      refine codeAny_mono (codeAny_call_builtin (R := wants (fun r s₂ => r = .none ∧ ∃ h' tk, s₂ = { s with heap := h', toks := tk } ∧
          SetS w h' s.heap.objs.size (fun k' => decide (k' ∈ xs)) (canon xs).length ∧
          (∀ b o, b < s.heap.objs.size → s.heap.get? b = some o → h'.get? b = some o)) E) PySem.F.called_set.init.plain PySem.F.entry_set_init (check_set_init_1 hT ?_)) fun r₂ s₂ hr₂ => ?_
      · obtain ⟨ol, hol, hcl, nl, hdl⟩ := hl
        obtain ⟨ocls, odict, odata, oslots⟩ := ol
        simp only at hcl hdl
        subst hcl; subst hdl
        have hol' : (s.heap.push { cls := .type "set", dict := none, data := .set #[] 0 (.fresh 0 0 led) }).get? l = some { cls := .type "list", dict := odict, data := .seq items nl, slots := oslots } := Heap.get?_push_of_some _ hol
        have hsls := PySem.F.sub_list_set
        have hslf := PySem.F.sub_list_frozenset
        have hne : (Value.type "list" == Value.type "dict") = false := by decide
        have hl1 : (s.heap.push { cls := .type "set", dict := none, data := .set #[] 0 (.fresh 0 0 led) }).IsList l items := ⟨_, hol', rfl, nl, rfl⟩
        unfold Builtin.«set.__init__» noKeywords Builtin.Frozenset.updateFrom
        generalize hPI : pyIter = PI
        wp_walk
        subst hPI

        refine wpAny_pyIter_list hl1 ?_
        refine wpAny_bind (wpAny_runValue ?_)
        have hlS : l < s.heap.objs.size := Heap.lt_size hol
        have hh3 : A.in1.in1.in1.handled = none := by simp [hh]
        have hneI : l ≠ (s.heap.push { cls := .type "set", dict := none, data := .set #[] 0 (.fresh 0 0 led) }).objs.size := by
          rw [Heap.size_push]; exact Nat.ne_of_lt (Nat.lt_succ_of_lt hlS)
        have hSf : s.heap.objs.size ∉ [(s.heap.push { cls := .type "set", dict := none, data := .set #[] 0 (.fresh 0 0 led) }).objs.size, l] := by
          rw [Heap.size_push]; simp only [List.mem_cons, List.mem_singleton, List.not_mem_nil, or_false, not_or]
          exact ⟨Nat.ne_of_lt (Nat.lt_succ_self _), Nat.ne_of_gt hlS⟩
        have hsz : xs.length = items.size := by rw [← StrsAre.len_eq hi, Array.length_toList]
        have hval : ∀ (i : Nat) (v : Value), items[i]? = some v → ∃ t, v = .str (xs.getD i Str.empty) t := fun i v hv => SS.strs_at hi i v (by rw [Array.getElem?_toList]; exact hv)
        refine loopTx ((Walks.list hh3 _ l hneI items).toS) s.heap.objs.size
          hSf xs hsz hb hval (items.size - 0) 0 _ (by omega) (Nat.zero_le _)
          ⟨⟨_, Heap.get?_push_size _ rfl, rfl, rfl⟩, (hl1.push _)⟩ ?hS0 ?hR
        case hS0 =>
          have hget : ((s.heap.push { cls := .type "set", dict := none, data := .set #[] 0 (.fresh 0 0 led) }).push { cls := .type "list_iterator", data := .fields #[.ref l, .int 0 0] }).get? s.heap.objs.size
              = some { cls := .type "set", dict := none, data := .set #[] 0 (.fresh 0 0 led) } := Heap.get?_push_of_some _ hS
          exact ⟨0, Nat.le_refl _, (setS_at0 hled hget).congr fun k => by simp⟩
        case hR =>
          intro s' hm ⟨nn, hnn, hS0⟩
          have hS' := SetS.canon hS0 (by rw [← hsz, List.take_length])
          obtain ⟨h', g', d', tk', os'⟩ := s'
          have eg : g' = s.gens := hm.gens
          have ed : d' = s.drawn := hm.drawn
          have eo : os' = s.os := hm.os
          subst eg; subst ed; subst eo
          show wpAny _ _ _ _ _ _
          refine wpAny_pure ?_
          show wpAny _ _ (ret Value.none) _ _ _
          refine wpAny_pure ⟨rfl, h', tk', rfl, hS', fun b o hb e => ?_⟩
          have hb1 : b ≠ s.heap.objs.size := Nat.ne_of_lt hb
          have hb2 : b ≠ (s.heap.push { cls := .type "set", dict := none, data := .set #[] 0 (.fresh 0 0 led) }).objs.size := by
            rw [Heap.size_push]; exact Nat.ne_of_lt (Nat.lt_succ_of_lt hb)
          exact hm.heap b o (by simp only [List.mem_cons, List.mem_singleton, List.not_mem_nil, or_false, not_or]; exact ⟨hb1, hb2⟩) (Heap.get?_push_of_some _ (Heap.get?_push_of_some _ e))

      · cases r₂ with
        | error e => exact hr₂
        | ok fl₂ =>
          cases fl₂ with
          | ret r =>
            obtain ⟨rfl, h', tk, rfl, hS', hk'⟩ := hr₂
            repeat (any_goals (first | assumption | wp_step))
            exact h _ _ hS' hk'
          | _ => exact hr₂.elim
    | _ => exact hr.elim

set_option maxHeartbeats 3200000 in
theorem call_set_tupleS {l : Addr} {items : Array Value} {xs : List Str} {Q : Value → Shared → Prop}
    (hh : A.handled = none) (hl : s.heap.IsTuple l items) (hi : PyProof.Rows.StrsAre items.toList xs) (hb : items.size + 1 < scanBound)
    (h : ∀ (h' : Heap) (tk : Nat), SetS w h' s.heap.objs.size (fun k' => decide (k' ∈ xs)) (canon xs).length →
      (∀ b o, b < s.heap.objs.size → s.heap.get? b = some o → h'.get? b = some o) → Q (.ref s.heap.objs.size) { s with heap := h', toks := tk }) :
    wpAny (model prog w) A (call (.type "set") [.ref l]) Q E s := by
  obtain ⟨c, tl, hmro⟩ := PySem.F.called_set.mro
  have hmade := PySem.F.called_set.made
  have hsub := PySem.F.called_set.sub
  refine wpAny_call (codeAny_of_tree ?_)
  show wpAny _ _ (callAny (.type "set") _) _ _ _
  refine wpAny_pure ⟨Code.quiet_builtin _ (by decide +kernel), codeAny_builtin PySem.F.entry_type_call ?_⟩
  rw [Around.under_plain (weight_type_call_type "set" [.ref l] []) rfl]
  have h1 := PySem.F.called_set.notType
  have h2 := PySem.F.called_set.canCreate
  have hct := PySem.F.typeCall_set_1 (.ref l)
  repeat (any_goals (first | assumption | wp_step))

  refine codeAny_mono (code_set_led1 (.ref l) (E := E) (Q₁ := fun obj s₁ => ∃ led : Bool, led = (!w.params.followText "set-order") ∧ obj = .ref s.heap.objs.size ∧ s₁ = { s with heap := s.heap.push { cls := .type "set", dict := none, data := .set #[] 0 (.fresh 0 0 led) } }) ⟨_, rfl, rfl, rfl⟩) fun r s₁ hr => ?_
  cases r with
  | error e => exact hr
  | ok fl =>
    cases fl with
    | ret obj =>
      obtain ⟨led, hled, rfl, rfl⟩ := hr
      have hS : (s.heap.push { cls := .type "set", dict := none, data := .set #[] 0 (.fresh 0 0 led) }).get? s.heap.objs.size = some { cls := .type "set", dict := none, data := .set #[] 0 (.fresh 0 0 led) } := Heap.get?_push_size _ rfl
      have hT : Shared.TypeIs { s with heap := s.heap.push { cls := .type "set", dict := none, data := .set #[] 0 (.fresh 0 0 led) } } (.ref s.heap.objs.size) "set" := ⟨_, hS, rfl⟩
      have hli := PySem.F.called_set.init.lookup
      have hbi := PySem.F.called_set.init.bind (.ref s.heap.objs.size)
      repeat (any_goals (first | assumption | wp_step))

      refine codeAny_mono (codeAny_call_builtin (R := wants (fun r s₂ => r = .none ∧ ∃ h' tk, s₂ = { s with heap := h', toks := tk } ∧
          SetS w h' s.heap.objs.size (fun k' => decide (k' ∈ xs)) (canon xs).length ∧
          (∀ b o, b < s.heap.objs.size → s.heap.get? b = some o → h'.get? b = some o)) E) PySem.F.called_set.init.plain PySem.F.entry_set_init (check_set_init_1 hT ?_)) fun r₂ s₂ hr₂ => ?_
      · obtain ⟨ol, hol, hcl, nl, hdl⟩ := hl
        obtain ⟨ocls, odict, odata, oslots⟩ := ol
        simp only at hcl hdl
        subst hcl; subst hdl
        have hol' : (s.heap.push { cls := .type "set", dict := none, data := .set #[] 0 (.fresh 0 0 led) }).get? l = some { cls := .type "tuple", dict := odict, data := .seq items nl, slots := oslots } := Heap.get?_push_of_some _ hol
        have hsls := PySem.F.sub_tuple_set
        have hslf := PySem.F.sub_tuple_frozenset
        have hne : (Value.type "tuple" == Value.type "dict") = false := by decide
        have hl1 : (s.heap.push { cls := .type "set", dict := none, data := .set #[] 0 (.fresh 0 0 led) }).IsTuple l items := ⟨_, hol', rfl, nl, rfl⟩
        unfold Builtin.«set.__init__» noKeywords Builtin.Frozenset.updateFrom
        generalize hPI : pyIter = PI
        wp_walk
        subst hPI

        refine wpAny_pyIter_tuple hl1 ?_
        refine wpAny_bind (wpAny_runValue ?_)
        have hlS : l < s.heap.objs.size := Heap.lt_size hol
        have hh3 : A.in1.in1.in1.handled = none := by simp [hh]
        have hneI : l ≠ (s.heap.push { cls := .type "set", dict := none, data := .set #[] 0 (.fresh 0 0 led) }).objs.size := by
          rw [Heap.size_push]; exact Nat.ne_of_lt (Nat.lt_succ_of_lt hlS)
        have hSf : s.heap.objs.size ∉ [(s.heap.push { cls := .type "set", dict := none, data := .set #[] 0 (.fresh 0 0 led) }).objs.size, l] := by
          rw [Heap.size_push]; simp only [List.mem_cons, List.mem_singleton, List.not_mem_nil, or_false, not_or]
          exact ⟨Nat.ne_of_lt (Nat.lt_succ_self _), Nat.ne_of_gt hlS⟩
        have hsz : xs.length = items.size := by rw [← StrsAre.len_eq hi, Array.length_toList]
        have hval : ∀ (i : Nat) (v : Value), items[i]? = some v → ∃ t, v = .str (xs.getD i Str.empty) t := fun i v hv => SS.strs_at hi i v (by rw [Array.getElem?_toList]; exact hv)
        refine loopTx ((Walks.tuple hh3 _ l hneI items).toS) s.heap.objs.size
          hSf xs hsz hb hval (items.size - 0) 0 _ (by omega) (Nat.zero_le _)
          ⟨⟨_, Heap.get?_push_size _ rfl, rfl, rfl⟩, (hl1.push _)⟩ ?hS0 ?hR
        case hS0 =>
          have hget : ((s.heap.push { cls := .type "set", dict := none, data := .set #[] 0 (.fresh 0 0 led) }).push { cls := .type "tuple_iterator", data := .fields #[.ref l, .int 0 0] }).get? s.heap.objs.size
              = some { cls := .type "set", dict := none, data := .set #[] 0 (.fresh 0 0 led) } := Heap.get?_push_of_some _ hS
          exact ⟨0, Nat.le_refl _, (setS_at0 hled hget).congr fun k => by simp⟩
        case hR =>
          intro s' hm ⟨nn, hnn, hS0⟩
          have hS' := SetS.canon hS0 (by rw [← hsz, List.take_length])
          obtain ⟨h', g', d', tk', os'⟩ := s'
          have eg : g' = s.gens := hm.gens
          have ed : d' = s.drawn := hm.drawn
          have eo : os' = s.os := hm.os
          subst eg; subst ed; subst eo
          show wpAny _ _ _ _ _ _
          refine wpAny_pure ?_
          show wpAny _ _ (ret Value.none) _ _ _
          refine wpAny_pure ⟨rfl, h', tk', rfl, hS', fun b o hb e => ?_⟩
          have hb1 : b ≠ s.heap.objs.size := Nat.ne_of_lt hb
          have hb2 : b ≠ (s.heap.push { cls := .type "set", dict := none, data := .set #[] 0 (.fresh 0 0 led) }).objs.size := by
            rw [Heap.size_push]; exact Nat.ne_of_lt (Nat.lt_succ_of_lt hb)
          exact hm.heap b o (by simp only [List.mem_cons, List.mem_singleton, List.not_mem_nil, or_false, not_or]; exact ⟨hb1, hb2⟩) (Heap.get?_push_of_some _ (Heap.get?_push_of_some _ e))

      · cases r₂ with
        | error e => exact hr₂
        | ok fl₂ =>
          cases fl₂ with
          | ret r =>
            obtain ⟨rfl, h', tk, rfl, hS', hk'⟩ := hr₂
            repeat (any_goals (first | assumption | wp_step))
            exact h _ _ hS' hk'
          | _ => exact hr₂.elim
    | _ => exact hr.elim

end
end TX
set_option Elab.async false
set_option linter.all false
set_option maxRecDepth 100000
set_option maxHeartbeats 2000000
namespace TX
open PySem PySem.Spec PyProof.Rows L2
theorem entry_set_or : entryFor table "set.__or__" = some Builtin.«frozenset.__or__» :=
  entryFor_alias (id' := "frozenset.__or__") (by kernel_rfl) rfl (by decide +kernel) (by kernel_rfl)
/-- the set of the texts L -/
def SetC (w : World) (h : Heap) (a : Addr) (L : List Str) : Prop := SetS w h a (fun k => decide (k ∈ L)) (canon L).length
theorem SetC.congr {w : World} {h : Heap} {a : Addr} {L M : List Str} (R : SetC w h a L) (e : ∀ k, k ∈ L ↔ k ∈ M) : SetC w h a M := by
  unfold SetC at R ⊢
  rw [canon_congr (fun k => (e k).symm)]
  exact SetS.congr R fun k => by rw [Bool.eq_iff_iff]; simp [e k]
theorem SetC.tab {w : World} {h : Heap} {a : Addr} {L : List Str} (R : SetC w h a L) : ∃ es t, TabS w h a es t ∧ (∀ k, k ∈ es.toList.map keyS ↔ k ∈ L) ∧ es.size = (canon L).length := by
  obtain ⟨es, t, T, m, n⟩ := SetS.tab R
  exact ⟨es, t, T, fun k => by rw [← m k, decide_eq_true_eq], n⟩
theorem TabS.setC {w : World} {h : Heap} {a : Addr} {es : Array (Int × Value)} {t : SetTable} {L : List Str} (R : TabS w h a es t) (m : ∀ k, k ∈ es.toList.map keyS ↔ k ∈ L) : SetC w h a L := by
  have S1 := TabS.setS (S := fun k => decide (k ∈ L)) R (fun k => by rw [decide_eq_true_eq, m k])
  exact SetS.canon S1 rfl
section
variable {P : Program} {w : World} {A : Around} {E : Value → Shared → Prop} {s : Shared} {a b : Addr} {L M : List Str}
theorem sub_set_set : isSubtype (.type "set") (.type "set") = pure true := PySem.sub_set_self
theorem anyS {Q : Bool → Shared → Prop} (hT : s.TypeIs (.ref a) "set") (h : Q true s) : wpAny (model P w) A (Builtin.Frozenset.isAnySet (.ref a)) Q E s := by
  unfold Builtin.Frozenset.isAnySet
  show wpAny _ _ (isInstance (.ref a) (.type "set") >>= _) _ _ _
  refine wpAny_bind (wpAny_isInstance hT PySem.sub_set_self ?_)
  exact wpAny_pure h
theorem TabS.typeIs {es : Array (Int × Value)} {t : SetTable} (R : TabS w s.heap a es t) : s.TypeIs (.ref a) "set" := by
  obtain ⟨o, ep, ho, hx, _⟩ := R
  exact ⟨o, ho, hx.1⟩
theorem baseS {Q : Value → Shared → Prop} (hT : s.TypeIs (.ref a) "set") (h : Q (.type "set") s) : wpAny (model P w) A (Builtin.Frozenset.baseOf a) Q E s := by
  unfold Builtin.Frozenset.baseOf
  refine wpAny_bind (wpAny_isInstance hT PySem.sub_set_self ?_)
  exact wpAny_pure h
theorem newS {Q : Value → Shared → Prop} (h : ∀ h' t, s.heap.objs.size < h'.objs.size → (∀ c u, s.heap.get? c = some u → h'.get? c = some u) → TabS w h' s.heap.objs.size #[] t → MaskQ t.mask → Q (.ref s.heap.objs.size) { s with heap := h' }) :
    wpAny (model P w) A (newSet (.type "set")) Q E s := by
  refine PpSet.newSet_ok (h _ _ (by rw [Heap.size_push]; exact Nat.lt_succ_self _) (fun c u e => Heap.get?_push_of_some _ e) ⟨_, 0, Heap.get?_push_size _ rfl, ⟨rfl, rfl, rfl⟩, rfl, (fun e he => by simp at he), (by simp), (by decide), (by rfl), List.Pairwise.nil, ?_⟩ (.inl rfl))
  show _ ∨ (!w.params.followText "set-order") = true
  cases w.params.followText "set-order"
  · exact .inr rfl
  · exact .inl rfl
theorem copyS {es : Array (Int × Value)} {t : SetTable} {Q : Value → Shared → Prop} (T : TabS w s.heap a es t) (few : es.size * 2 < 256)
    (h : ∀ h' er tr, s.heap.objs.size < h'.objs.size → (∀ c u, s.heap.get? c = some u → h'.get? c = some u) → TabS w h' s.heap.objs.size er tr → (∀ k, k ∈ er.toList.map keyS ↔ k ∈ es.toList.map keyS) → (er.size = 0 → MaskQ tr.mask) → er.size ≤ es.size → Q (.ref s.heap.objs.size) { s with heap := h' }) :
    wpAny (model P w) A (Builtin.Frozenset.copyOf a) Q E s := by
  unfold Builtin.Frozenset.copyOf
  have hlt : a < s.heap.objs.size := by
    obtain ⟨o, ep, ho, _⟩ := T
    exact Heap.lt_size ho
  refine wpAny_bind (baseS T.typeIs ?_)
  refine wpAny_bind (newS fun h1 t1 z1 k1 R1 m1 => ?_)
  have T1 : TabS w h1 a es t := T.at fun u e => k1 a u e
  refine wpAny_bind (wpAny_of_eq (a := s.heap.objs.size) rfl ?_)
  refine wpAny_bind (mergeS (s := { s with heap := h1 }) R1 T1 (Nat.ne_of_gt hlt) (fun _ => m1) (by simpa using few) (fun s1 Q1 _ q => wpAny_pure q) fun h2 er tr sb R2 mem mq le => ?_)
  refine wpAny_pure (h h2 er tr ?_ (fun c u e => (sb.2 c (Nat.ne_of_lt (Heap.lt_size e))).trans (k1 c u e)) R2 (fun k => ?_) mq (by simpa using le))
  · obtain ⟨o, ep, ho, _⟩ := R2
    exact Heap.lt_size ho
  · rw [mem k]
    simp
theorem unionS {Q : Value → Shared → Prop} (Ra : SetC w s.heap a L) (Rb : SetC w s.heap b M) (few : ((canon L).length + (canon M).length) * 2 < 256)
    (h : ∀ h', s.heap.objs.size < h'.objs.size → (∀ c u, s.heap.get? c = some u → h'.get? c = some u) → SetC w h' s.heap.objs.size (L ++ M) → Q (.ref s.heap.objs.size) { s with heap := h' }) :
    wpAny (model P w) A (binaryOp .BitOr (.ref a) (.ref b)) Q E s := by
  obtain ⟨ea, ta, Ta, ma, na⟩ := Ra.tab
  obtain ⟨eb, tb, Tb, mb, nb⟩ := Rb.tab
  refine wpAny_binaryOp_same (op := .BitOr) (T := "set") Ta.typeIs Tb.typeIs PySem.F.fills_set_or PySem.F.slot_set_or ?_
  refine wpAny_call_entry PySem.F.slot_set_or Ta.typeIs entry_set_or ?_ (PySem.F.args_set_or_2 _ _)
  unfold Builtin.«frozenset.__or__»
  show wpAny _ _ (Builtin.Frozenset.slot1 "__or__" _ >>= _) _ _ _
  refine wpAny_bind (wpAny_of_eq (a := ((Value.ref a : Value), (Value.ref b : Value))) (by rfl) ?_)
  dsimp only
  simp only [Bool.false_eq_true, if_false]
  refine wpAny_bind ?_
  unfold andM
  refine wpAny_bind (anyS Ta.typeIs ?_)
  show wpAny _ _ (Builtin.Frozenset.isAnySet (.ref b)) _ _ _
  refine anyS Tb.typeIs ?_
  refine wp_if_neg (by simp) ?_
  try refine wpAny_bind (wpAny_pure ?_)
  refine wpAny_bind ?_
  have hlb : b < s.heap.objs.size := by
    obtain ⟨o, ep, ho, _⟩ := Tb
    exact Heap.lt_size ho
  show wpAny _ _ (Builtin.Frozenset.copyOf a >>= _) _ _ _
  refine wpAny_bind (copyS Ta (by omega) fun h1 er tr z1 k1 R1 m1 mq le => ?_)
  have fin : ∀ h2, s.heap.objs.size < h2.objs.size → (∀ c u, s.heap.get? c = some u → h2.get? c = some u) → SetC w h2 s.heap.objs.size (L ++ M) →
      wpAny (model P w) A.in1 (ret (Value.ref s.heap.objs.size)) (fun fin s' => ∃ v, fin = Fin.done (Flow.ret v) ∧ v ≠ Value.notImplemented ∧ Q v s') E { s with heap := h2 } := fun h2 z k R => wpAny_pure ⟨_, rfl, (fun e => nomatch e), h h2 z k R⟩
  by_cases hab : a = b
  · subst hab
    refine wp_if_neg (by simp) ?_
    try refine wpAny_bind (wpAny_pure ?_)
    refine wpAny_pure (fin h1 z1 k1 (TabS.setC R1 fun k => ?_))
    have eab : ∀ k, k ∈ L ↔ k ∈ M := fun k => by
      obtain ⟨o1, p1, g1, _, d1, _⟩ := Ta
      obtain ⟨o2, p2, g2, _, d2, _⟩ := Tb
      rw [g1] at g2
      obtain rfl := Option.some.inj g2
      rw [d1] at d2
      obtain ⟨rfl, _⟩ : ea = eb ∧ True := by cases d2; exact ⟨rfl, trivial⟩
      exact (ma k).symm.trans (mb k)
    rw [m1 k, ma k, List.mem_append, ← eab k, or_self]
  · refine wp_if_pos (by simpa using Ne.symm hab) ?_
    have T1 : TabS w h1 b eb tb := Tb.at fun u e => k1 b u e
    have hmem : ∀ k, k ∈ er.toList.map keyS ↔ k ∈ L := fun k => (m1 k).trans (ma k)
    have T1' := T1
    obtain ⟨ob, epb, hob, hxb, hdb, gb, ndb, hbb, hfb, hrb, hlb'⟩ := T1'
    refine wpAny_bind (m := Builtin.Frozenset.addrOf (.ref s.heap.objs.size)) (wpAny_of_eq (a := s.heap.objs.size) rfl ?_)
    refine wpAny_bind (wpAny_holding ?_)
    unfold Builtin.Frozenset.updateFrom
    refine wpAny_bind (anyS (TabS.typeIs (s := { s with heap := h1 }) T1) ?_)
    refine wp_if_pos rfl ?_
    refine wpAny_bind (wpAny_of_eq (a := b) rfl ?_)
    unfold Builtin.Frozenset.merge
    refine wpAny_bind (wpAny_setEpoch_of (s := { s with heap := h1 }) hob hdb hfb ?_)
    refine mergeS (s := { s with heap := h1 }) R1 T1 (Nat.ne_of_gt hlb) mq (by omega) (fun s1 Q1 e q => ?_) fun h2 er2 tr2 sb R2 mem _ _ => ?_
    · unfold Builtin.Frozenset.unchanged
      have hob1 : s1.heap.get? b = some ob := e.trans hob
      refine wpAny_bind (wpAny_setEpoch_of hob1 hdb hfb ?_)
      refine wp_if_neg (by simp) ?_
      exact wpAny_pure q
    · have k2 : ∀ c u, s.heap.get? c = some u → h2.get? c = some u := fun c u e => (sb.2 c (Nat.ne_of_lt (Heap.lt_size e))).trans (k1 c u e)
      refine wpAny_pure (fin h2 ?_ k2 (TabS.setC R2 fun k => ?_))
      · obtain ⟨o, ep, ho, _⟩ := R2
        exact Heap.lt_size ho
      · rw [mem k, hmem k, mb k, List.mem_append]
end
end TX
set_option Elab.async false
set_option linter.all false
set_option maxRecDepth 100000
set_option maxHeartbeats 2000000
/-! sets of texts as tracked things: set(xs), |, sorted, len, {.. for ..} -/
namespace TX
open PySem PySem.Spec PyProof.Rows L2
section
variable {P : Program} {w : World} {A : Around} {E : Value → Shared → Prop} {s : Shared} {a : Addr} {L : List Str}
theorem sortedC {Q : Value → Shared → Prop} (R : SetC w s.heap a L) (hh : A.handled = none) (h64 : (canon L).length < 64)
    (hQ : ∀ s' p (out : Array Value) (c : Nat), (∀ b o, s.heap.get? b = some o → s'.heap.get? b = some o) → s'.gens = s.gens → s'.os = s.os → s.heap.objs.size ≤ p →
      s'.heap.get? p = some (seqObj "list" out c) → StrsAre out.toList (canon L) → Q (.ref p) s') :
    wpAny (model P w) A (call (.builtin "sorted") [.ref a]) Q E s := by
  obtain ⟨es, t, T, m, n⟩ := R.tab
  obtain ⟨o, ep, ho, hex, hd, g, nd, hb, hf, hr, hl⟩ := T
  refine Calls.call_function_entry PyProof.Rows.kind_sorted PyProof.Rows.plain_sorted PyProof.Rows.entry_sorted (PyProof.Rows.args_sorted1 _) ?_
  unfold Builtin.«sorted»
  refine wpAny_bind (m := checkCount "sorted" 1 1 _) (wpAny_pure ?_)
  refine wpAny_bind (collect_set (A := A.in1) hh ⟨o, ho, hex.1, hd⟩ hf hb hr hl fun s1 vs k1 hz g1 o1 pm => ?_)
  have hvl : vs.length = (canon L).length := by rw [pm.length_eq, List.length_map, Array.length_toList]; exact n
  have hS : StrsAre vs (vs.map PyProof.Rows.strOf) := PyProof.Rows.strsAre_map vs fun v hv => by
    obtain ⟨e, he, q⟩ := List.mem_map.mp (pm.mem_iff.mp hv)
    obtain ⟨k, tk, h1, _⟩ := g e he
    exact ⟨k, tk, by rw [← q]; exact h1⟩
  have pk : (vs.map PyProof.Rows.strOf).Perm (es.toList.map keyS) := by
    have q := pm.map PyProof.Rows.strOf
    rw [List.map_map] at q
    have e : es.toList.map (PyProof.Rows.strOf ∘ fun x => x.2) = es.toList.map keyS := List.map_congr_left fun e he => by
      obtain ⟨k, tk, h1, _⟩ := g e he
      show PyProof.Rows.strOf e.2 = keyS e
      unfold keyS
      rw [h1]
      rfl
    rw [e] at q
    exact q
  refine wpAny_bind (wpAny_newList ?_ (by rw [hvl, sizeLine_eq]; omega))
  have hoL : (s1.heap.push (seqObj "list" vs.toArray 0)).get? s1.heap.objs.size = some (seqObj "list" vs.toArray 0) := Heap.get?_push_size _ rfl
  refine wpAny_bind (wpAny_holding (wpAny_call_entry PyProof.Rows.slot_list_sort ⟨_, hoL, rfl⟩ PyProof.Rows.entry_list_sort
    (list_sort_treeK strKind_oneLt (s := { s1 with heap := s1.heap.push (seqObj "list" vs.toArray 0) }) hoL hS.keysOf (fun v₁ v₂ rest e => keyKind_strs (by rw [← e]; exact hS)) (by rw [hvl]; exact h64) fun st' hp hs => ⟨_, rfl, ?_⟩)
    (PyProof.Rows.args_list_sort _)))
  obtain ⟨ys, g1', g2, g3⟩ := sorted_out_str hS hp hs
  obtain ⟨c, hc⟩ := PyProof.Rows.sortedHeap_at (vs := vs) (out := (arrOf st').map (·.2)) hoL
  have pn : ys.Perm (es.toList.map keyS) := g2.trans pk
  have ey : ys = canon L := (sorted_srt g3 (pn.nodup_iff.mpr nd)).ext (srt_canon L) fun k => by rw [pn.mem_iff, m k, mem_canon]
  rw [ey] at g1'
  refine wpAny_pure ⟨_, rfl, hQ _ s1.heap.objs.size _ c (fun b u e => ?_) g1 o1 hz hc g1'⟩
  have q := k1 b u e
  have hlt := Heap.lt_size q
  show (PyProof.Rows.sortedHeap (s1.heap.push (seqObj "list" vs.toArray 0)) s1.heap.objs.size vs _).get? b = some u
  rw [PyProof.Rows.sortedHeap_old (Nat.ne_of_lt hlt) (by rw [size_push']; exact Nat.lt_succ_of_lt hlt)]
  exact Heap.get?_push_of_some _ q
end
/-! ### tracked -/
def SetSO (w : World) (a : Addr) (L : List Str) : HO := .ext fun h => SetC w h a L
theorem setSO_new {w : World} {P : Program} {H : Hp} {h : Heap} {a : Addr} {L : List Str} (R : SetC w h a L) : ObjOk P w H h a (SetSO w a L) := by
  have ⟨o, _, _, _, ho, _⟩ := R
  exact ⟨R, ⟨o, ho⟩, fun h1 h2 p k => SetS.at p k⟩
section
variable {X : Cx}
theorem setSO_get {pins : List (Addr × Obj)} {σ : L2.St} {H : Hp} {s : Shared} {a : Addr} {L : List Str} (I : Inv X pins σ H s) (ha : H a = some (SetSO X.w a L)) : SetC X.w s.heap a L := (I.hok a _ ha).1
/-- set(xs), xs a list or a tuple of texts -/
def rSetS (K : PySem.W.Frag) (w : World) : List V → Hp → VK → Prop := fun xs H Q => ∃ (l : Addr) (zs : List Str), xs = [V.ref l] ∧ (SqL K H l (zs.map V.str) ∨ SqT K H l (zs.map V.str)) ∧ zs.length + 1 < scanBound ∧ ∀ p, H p = none → Q (.ref p) (upd H p (SetSO w p zs))
theorem cr_setS (hc : X.calm = true) : CallR X (.type "set") (rSetS X.K X.w) := by
  intro pins s σ H xs us Q I r h
  obtain ⟨l, zs, rfl, hl, hz, q⟩ := h
  rw [Vals.ref1 r]
  have hn : H s.heap.objs.size = none := I.hok.fresh (Nat.le_refl _)
  have fin : ∀ (h' : Heap) (tk : Nat), SetS X.w h' s.heap.objs.size (fun k' => decide (k' ∈ zs)) (canon zs).length → (∀ b o, b < s.heap.objs.size → s.heap.get? b = some o → h'.get? b = some o) →
      EP X pins σ Q (.ref s.heap.objs.size) { s with heap := h', toks := tk } := fun h' tk R k =>
    ⟨.ref s.heap.objs.size, upd H s.heap.objs.size (SetSO X.w s.heap.objs.size zs), I.laid (t' := tk) (fun b o e => k b o (Heap.lt_size e) e) (Nat.le_refl _) (setSO_new R), rfl, q _ hn⟩
  rcases hl with hl | hl
  · obtain ⟨its, rv, pl, hz2⟩ := I.list hl
    have lz := rv.length
    rw [List.length_map] at lz
    exact call_set_listS (I.ok.hd hc) pl.isList rv.strs (by rw [List.size_toArray, ← lz]; exact hz) fin
  · obtain ⟨its, rv, pl, hz2⟩ := I.tuple hl
    have lz := rv.length
    rw [List.length_map] at lz
    exact call_set_tupleS (I.ok.hd hc) pl rv.strs (by rw [List.size_toArray, ← lz]; exact hz) fin
/-- a | b -/
def rOrS (w : World) : R2 := fun x y H Q => ∃ (a b : Addr) (L M : List Str), x = .ref a ∧ y = .ref b ∧ H a = some (SetSO w a L) ∧ H b = some (SetSO w b M) ∧ ((canon L).length + (canon M).length) * 2 < 256 ∧ ∀ p, H p = none → Q (.ref p) (upd H p (SetSO w p (L ++ M)))
theorem op_orS : OpR X (binaryOp .BitOr) (rOrS X.w) := by
  intro pins s σ H x y v u Q I rx ry h
  obtain ⟨a, b, L, M, rfl, rfl, ha, hb, few, q⟩ := h
  cases rx
  cases ry
  refine unionS (setSO_get I ha) (setSO_get I hb) few fun h' z k R => ?_
  exact ⟨.ref s.heap.objs.size, upd H s.heap.objs.size (SetSO X.w s.heap.objs.size (L ++ M)), I.laid (t' := s.toks) k (Nat.le_refl _) (setSO_new R), rfl, q _ (I.hok.fresh (Nat.le_refl _))⟩
/-- sorted(a) -/
def rSortedSS (w : World) : List V → Hp → VK → Prop := fun vs H Q => ∃ (a : Addr) (L : List Str), vs = [V.ref a] ∧ H a = some (SetSO w a L) ∧ (canon L).length < 64 ∧ ∀ p, H p = none → Q (.ref p) (upd H p (.lst ((canon L).map V.str)))
theorem cr_sortedSS (hc : X.calm = true) : CallR X (.builtin "sorted") (rSortedSS X.w) := by
  intro pins s σ H vs us Q I r h
  obtain ⟨a, L, rfl, ha, h64, q⟩ := h
  rw [Vals.ref1 r]
  refine sortedC (setSO_get I ha) (I.ok.hd hc) h64 fun s' p out c k g o hp hg hs => ?_
  have hlen : ((canon L).map V.str).length ≤ sizeLine := by rw [List.length_map, sizeLine_eq]; omega
  have hn : H p = none := I.hok.fresh hp
  have J : Inv X pins σ (upd H p (.lst ((canon L).map V.str))) { s with heap := s'.heap, gens := s'.gens, drawn := s'.drawn, toks := s'.toks } :=
    I.call (ch := []) (Un.laid k hp hn) (I.hok.laid k hp ⟨hlen, out.toList, c, vals_of_strs hs, hg⟩) (by rw [g]; exact I.bare) (fun _ z => nomatch z)
  have e : s' = { s with heap := s'.heap, gens := s'.gens, drawn := s'.drawn, toks := s'.toks } := by
    cases s'
    cases s
    cases o
    rfl
  rw [e]
  exact ⟨.ref p, _, J, rfl, q p hn⟩
/-- found.add(text) -/
theorem addS_ok {pins : List (Addr × Obj)} {σ : L2.St} {H : Hp} {s : Shared} {E : Value → Shared → Prop} {D : Addr} {L : List Str} {y : Str} {tk : Tok} {Q : Value → Shared → Prop} (I : Inv X pins σ H s) (hD : H D = some (SetSO X.w D L)) (room : (canon L).length + 1 < scanBound)
    (h : ∀ s', Inv X pins σ (upd H D (SetSO X.w D (y :: L))) s' → Q .none s') : wpAny (model X.prog X.w) X.A (call (.builtin "set.add") [.ref D, .str y tk]) Q E s := by
  have R := setSO_get I hD
  refine setS_add R room fun h' sb new => ?_
  have he : ∃ u, h'.get? D = some u := by
    have ⟨o, _, _, _, ho, _⟩ := new
    exact ⟨o, ho⟩
  have new2 : SetC X.w h' D (y :: L) := SetS.canon (n := _) (new.congr fun k => by rw [Bool.eq_iff_iff]; simp [or_comm]) rfl
  exact h _ (I.write (e := D) (t' := s.toks + 1) (by rw [hD]; trivial) (.inl rfl) (fun b u hb hu => (sb.2 b hb).trans hu) he (setSO_new new2))
end
section
variable {X : Cx}
/-- {elt for target in iter if ..}, elt a text: D the new set -/
def tScS (w : World) (wi : TI) (g : TG) (tt : TT) (te : TE) (vs : List Nat) : TE := fun σ H Q => wi σ H fun J H1 => ∀ D, H1 D = none → ∃ W : Nat → Nat → Hp → Prop, (∃ m, W 0 m (upd H1 D (SetSO w D []))) ∧ ∀ i m H, W i m H →
  (J.stop i H ∧ Q (.ref D) H) ∨ (J.go i H ∧ ∃ Nx : Hp → Prop, (∀ H', Nx H' → ∃ m', m' < m ∧ W (i + 1) m' H') ∧ ∀ x H', J.yld i H x H' → g x (wipe σ vs) H' fun σ2 H2 => wipe σ2 vs = wipe σ vs ∧ tt σ2 H2 fun b H3 =>
    if b = true then te σ2 H3 fun y H4 => ∃ (c : Str) (L : List Str), y = .str c ∧ H4 D = some (SetSO w D L) ∧ (canon L).length + 1 < scanBound ∧ Nx (upd H4 D (SetSO w D (c :: L))) else Nx H3)
theorem scS_core {pins : List (Addr × Obj)} {s : Shared} {σ : L2.St} {H : Hp} {Q : VK} {elt tg iter : Expr} {ifs : List Expr} {scope : Scope} {own : List (PySem.Str × Nat)} {pos pos' : Pos} {wi : TI} {g : TG} {tt : TT} {te : TE} {use : Option (Value → Sem Unit)} {Qf : Value → Shared → Prop}
    (hc : X.calm = true) (hN : X.N.Nodup) (I : Inv X pins σ H s) (hi : PI X tg iter wi) (ok : BlkOk X.N X.env.scope scope own)
    (hg : ∀ (s : Shared) (H : Hp) (C : Addr) (cl : List (PySem.Str × Addr)) (fp : List Addr), PG (X.blk s H scope (compEnvC scope cl C X.env) fp) tg g) (ht : ∀ (s : Shared) (H : Hp) (C : Addr) (cl : List (PySem.Str × Addr)) (fp : List Addr), PTs (X.blk s H scope (compEnvC scope cl C X.env) fp) ifs tt)
    (he : ∀ (s : Shared) (H : Hp) (C : Addr) (cl : List (PySem.Str × Addr)) (fp : List Addr), PE (X.blk s H scope (compEnvC scope cl C X.env) fp) elt te) (hs : ∀ x, foldedSetIterable iter X.env x = pure x)
    (h : tScS X.w wi g tt te (own.map (·.2)) σ H Q)
    (hRR : ∀ D C s' m H', Inv X pins σ H' s' → Q (.ref D) H' → s'.heap.Ns C m → FpOk X pins H' C → compPost (model X.prog X.w) X.A X.xe use Qf (.ref D) C (.ok .next) s') :
    wpAny (model X.prog X.w) X.A (comprehension (.SetComp elt [⟨tg, iter, ifs, 0⟩] scope pos) scope X.env pos' (newSet (.type "set")) false (eval iter X.env) use) Qf X.xe s := by
  have hfree : ∀ y ∈ scope.names, y.2 = .free → ∃ c, X.env.cells.lookup y.1 = some c := fun y hy e => by
    rcases ok.free y hy e with k | k
    · exact I.ok.has _ (.inl k)
    · exact I.ok.has _ (.inr k)
  refine wpAny_comprehension_free (use := use) rfl hs (closure_ok hfree) ok.kind (fun y hy e => by rw [ok.uniq y hy, e])
    (thn (hi.run pins s σ H _ I h) fun xv s1 hx => thn hx fun itv s2 h2 => ?_)
  obtain ⟨it, fp, tn, J, H2, e, I2, T, st2, f2, q⟩ := h2
  subst e
  refine PpSet.newSet_ok (newEnv_comp ?_)
  generalize hD : s2.heap.objs.size = D
  have hDn : H2 D = none := I2.hok.fresh (Nat.le_of_eq hD)
  obtain ⟨W, ⟨m0, w0⟩, turn⟩ := q D hDn
  -- the new list
  generalize hs3 : ({ s2 with heap := s2.heap.push { cls := .type "set", dict := none, data := .set #[] 0 (.fresh 0 0 (!X.w.params.followText "set-order")) } } : Shared) = s3
  have I3 : Inv X pins σ (upd H2 D (SetSO X.w D [])) s3 := by
    rw [← hs3]
    refine I2.laid (t' := s2.toks) (fun b o e => Heap.get?_push_of_some _ e) (Nat.le_of_eq hD) ?_
    rw [← hD]
    exact setSO_new (SetS.canon (n := _) ((setS_at0 rfl (Heap.get?_push_size _ rfl)).congr fun k => by simp) rfl)
  have h3 : s3.heap = s2.heap.push { cls := .type "set", dict := none, data := .set #[] 0 (.fresh 0 0 (!X.w.params.followText "set-order")) } := by rw [← hs3]
  have sz : ∀ b ∈ fp, b < s2.heap.objs.size := fun b hb => by
    obtain ⟨o, e, _⟩ := T.obj _ _ st2 b hb
    exact Heap.lt_size e
  have f3 : ∀ b ∈ fp, FpOk X pins (upd H2 D (SetSO X.w D [])) b ∧ b < s3.heap.objs.size := fun b hb => by
    have hlt := sz b hb
    refine ⟨⟨?_, (f2 b hb).2⟩, by rw [h3, Heap.size_push]; exact Nat.lt_succ_of_lt hlt⟩
    rw [upd_ne (by rw [← hD]; exact Nat.ne_of_lt hlt)]
    exact (f2 b hb).1
  have st3 : tn 0 s3.heap := T.keep _ _ _ st2 fun b _ o e => by rw [h3]; exact Heap.get?_push_of_some _ e
  have I4 := block_start I3 ok hN f3
  have pg := hg s3 (upd H2 D (SetSO X.w D [])) s3.heap.objs.size (cellsFrom (s3.heap.objs.size + 1) scope.names (cloFrom X.env.cells scope.names [])) fp
  have pt := ht s3 (upd H2 D (SetSO X.w D [])) s3.heap.objs.size (cellsFrom (s3.heap.objs.size + 1) scope.names (cloFrom X.env.cells scope.names [])) fp
  have pe := he s3 (upd H2 D (SetSO X.w D [])) s3.heap.objs.size (cellsFrom (s3.heap.objs.size + 1) scope.names (cloFrom X.env.cells scope.names [])) fp
  show codeAny _ _ (.compStart (.SetComp elt [⟨tg, iter, ifs, 0⟩] scope pos) 0 (.ref it) (.ref D) (compEnvC scope (cellsFrom (s3.heap.objs.size + 1) scope.names (cloFrom X.env.cells scope.names [])) s3.heap.objs.size X.env)) (compPost (model X.prog X.w) X.A X.xe use Qf (.ref D) s3.heap.objs.size) { s3 with heap := pushCells (s3.heap.push { cls := .type "dict", data := .dict #[] }) scope.names }
  have nfp : ∀ b ∈ fp, (upd H2 D (SetSO X.w D [])) b = none := fun b hb => (f3 b hb).1.1
  generalize hce : compEnvC scope (cellsFrom (s3.heap.objs.size + 1) scope.names (cloFrom X.env.cells scope.names [])) s3.heap.objs.size X.env = ce at I4 pg pt pe ⊢
  have cL : ce.locals = s3.heap.objs.size := by subst hce; rfl
  generalize hH3 : upd H2 D (SetSO X.w D []) = H3 at I3 I4 pg pt pe w0 nfp f3
  generalize hs4 : ({ s3 with heap := pushCells (s3.heap.push { cls := .type "dict", data := .dict #[] }) scope.names } : Shared) = s4 at I4 ⊢
  have st4 : tn 0 s4.heap := T.keep _ _ _ st3 fun b _ o e => by rw [← hs4]; exact pushCells_keeps _ _ _ _ (Heap.get?_push_of_some _ e)
  have stat : ∀ {σ' : L2.St} {H' : Hp} {s' : Shared}, Inv (X.blk s3 H3 scope ce fp) [] σ' H' s' → (∀ b ∈ fp, H' b = none) → ∀ b ∈ fp, FpOk (X.blk s3 H3 scope ce fp) [] H' b := fun {σ' H' s'} I' hn b hb =>
    ⟨hn b hb, (I'.ok.exf b hb).1, I'.ok.exfs b hb, .inl hb, fun x c e => (I'.ok.exf b hb).2 x c e, fun p hp => absurd (show p ∈ ([] : List (Addr × Obj)) ++ [] from hp) (by simp)⟩
  have loop : codeAny (model X.prog X.w) X.A (.compLoop (.SetComp elt [⟨tg, iter, ifs, 0⟩] scope pos) 0 (.ref it) (.ref D) ce) (compPost (model X.prog X.w) X.A X.xe use Qf (.ref D) s3.heap.objs.size) s4 := by
    refine PpSet.compLoopS_any (fun n s' => ∃ i H', Inv (X.blk s3 H3 scope ce fp) [] (wipe σ (own.map (·.2))) H' s' ∧ tn i s'.heap ∧ (∀ b ∈ fp, H' b = none) ∧ W i n H') ?_ m0 ⟨0, H3, I4, st4, nfp, w0⟩
    rintro n s5 ⟨i, H5, I5, st5, n5, w5⟩
    rcases turn i n H5 w5 with ⟨stop, qq⟩ | ⟨go, Nx, hNx, step⟩
    · have td := T.done (X.blk s3 H3 scope ce fp) rfl rfl rfl hc i [] s5 _ H5 (fun _ _ => False) I5 (stat I5 n5) st5 stop
      refine thnF td fun r s6 ⟨hr, I6⟩ => ?_
      subst hr
      -- back in the def's context
      have I7 : Inv X pins σ H5 s6 := I3.call' (ch := fp) I6.os I6.base I6.hok I6.bare fun b hb => ⟨(f3 b hb).1.2.2.2.1, (f3 b hb).1.2.1, (f3 b hb).1.2.2.2.2.1, (f3 b hb).1.2.2.2.2.2⟩
      have nC : H5 s3.heap.objs.size = none := by
        have z : H5 ce.locals = none := I6.free
        rw [cL] at z
        exact z
      obtain ⟨m, hn, _⟩ := I6.loc
      have hn : s6.heap.Ns ce.locals m := hn
      rw [cL] at hn
      exact hRR D s3.heap.objs.size s6 m H5 I7 qq hn (I3.fpOk (Nat.le_refl _) nC)
    · have ti := T.item (X.blk s3 H3 scope ce fp) rfl rfl rfl hc i [] s5 _ H5 (fun _ _ => False) I5 (stat I5 n5) st5 go
      refine thnF ti fun r s6 ⟨u, hr, h6⟩ => ?_
      subst hr
      refine thnF h6 fun _ s7 ⟨x, H7, I7, r7, y7, st7, n7⟩ => ?_
      have I7' := I7.pinned (stat I7 n7) (T.obj _ _ st7)
      refine thnF (pg.run _ s7 _ H7 x u _ I7' r7 (step x H7 y7)) fun _ s8 ⟨σ8, H8, I8, hw8, q8⟩ => ?_
      refine thnF (pt.run _ s8 σ8 H8 _ I8 q8) fun b s9 ⟨H9, I9, q9⟩ => ?_
      -- the turn's end
      have fin : ∀ {s' : Shared} {H' : Hp}, Inv (X.blk s3 H3 scope ce fp) ([] ++ pinsAt fp s7.heap) σ8 H' s' → Nx H' → ∃ m, m < n ∧ ∃ i H', Inv (X.blk s3 H3 scope ce fp) [] (wipe σ (own.map (·.2))) H' s' ∧ tn i s'.heap ∧ (∀ b ∈ fp, H' b = none) ∧ W i m H' := fun {s' H'} I' nx => by
        obtain ⟨m', hm, w'⟩ := hNx H' nx
        have pin' : ∀ b ∈ fp, ∀ o, s7.heap.get? b = some o → s'.heap.get? b = some o ∧ H' b = none := fun b hb o e =>
          let z := I'.pin (b, o) (List.mem_append_right _ (List.mem_append_right _ (mem_pinsAt hb e)))
          ⟨z.1, z.2.1⟩
        have hl : (wipe σ (own.map (·.2))).length = σ8.length := by rw [← hw8, wipe_length]
        refine ⟨m', hm, i + 1, H', (I'.unpinned (pins := [])).weak hl (fun j v e => ?_), T.keep _ _ _ st7 fun b hb o e => (pin' b hb o e).1, fun b hb => ?_, w'⟩
        · rw [← hw8] at e
          exact (wipe_some e).1
        · obtain ⟨o, e, _⟩ := T.obj _ _ st7 b hb
          exact (pin' b hb o e).2
      cases b with
      | false =>
        simp only [Bool.false_eq_true, if_false] at q9 ⊢
        exact fin I9 q9
      | true =>
        simp only [if_true] at q9 ⊢
        refine thnF (pe.run _ s9 σ8 H9 _ I9 q9) fun z s10 ⟨yv, H10, I10, r10, cb, L0, ey, hD10, hz10, nx⟩ => ?_
        subst ey
        obtain ⟨tk, rfl⟩ := (show L2.RelV (.str cb) z from r10)
        exact addS_ok (X := X.blk s3 H3 scope ce fp) I10 hD10 hz10 fun s11 I11 => fin I11 nx
  exact PpSet.codeAny_compStart_set loop (T.self X.A 0 _ _ _ st4 loop)
/-- as a value -/
theorem pe_scS {elt tg iter : Expr} {ifs : List Expr} {scope : Scope} {own : List (PySem.Str × Nat)} {pos : Pos} {wi : TI} {g : TG} {tt : TT} {te : TE} (hc : X.calm = true) (hN : X.N.Nodup) (hi : PI X tg iter wi) (ok : BlkOk X.N X.env.scope scope own)
    (hg : ∀ (s : Shared) (H : Hp) (C : Addr) (cl : List (PySem.Str × Addr)) (fp : List Addr), PG (X.blk s H scope (compEnvC scope cl C X.env) fp) tg g) (ht : ∀ (s : Shared) (H : Hp) (C : Addr) (cl : List (PySem.Str × Addr)) (fp : List Addr), PTs (X.blk s H scope (compEnvC scope cl C X.env) fp) ifs tt)
    (he : ∀ (s : Shared) (H : Hp) (C : Addr) (cl : List (PySem.Str × Addr)) (fp : List Addr), PE (X.blk s H scope (compEnvC scope cl C X.env) fp) elt te) (hs : ∀ x, foldedSetIterable iter X.env x = pure x := by intro _; rfl) :
    PE X (.SetComp elt [⟨tg, iter, ifs, 0⟩] scope pos) (tScS X.w wi g tt te (own.map (·.2))) := by
  refine ⟨fun pins s σ H Q I h => ?_⟩
  rw [PpSet.eval_SetComp]
  refine scS_core hc hN I hi ok hg ht he hs h fun D C s' m H' I' q hn f => ⟨m, hn, fun h'' sb => ?_⟩
  obtain ⟨f0, f1, f2, f3, f4, f5⟩ := f
  exact ⟨.ref D, H', I'.turned (t' := s'.toks) (fun b o hb e => (sb.2 b hb).trans e) f0 f1 f3 f4 f5, rfl, q⟩
end
/-- over a tuple that the block leaves as it is -/
theorem scS_tup {w : World} {K : PySem.W.Frag} {a : Addr} {xs : List V} {g : TG} {tt : TT} {te : TE} {vs : List Nat} {σ : L2.St} {H1 : Hp} {D : Addr} {Qd : Hp → Prop} (Pv : Nat → Hp → Prop) (h0 : Pv 0 (upd H1 D (SetSO w D []))) (hl : ∀ i H, i ≤ xs.length → Pv i H → SqT K H a xs)
    (hs : ∀ i x H, xs[i]? = some x → Pv i H → g x (wipe σ vs) H fun σ2 H2 => wipe σ2 vs = wipe σ vs ∧ tt σ2 H2 fun b H3 =>
      if b = true then te σ2 H3 fun y H4 => ∃ (c : Str) (L : List Str), y = .str c ∧ H4 D = some (SetSO w D L) ∧ (canon L).length + 1 < scanBound ∧ Pv (i + 1) (upd H4 D (SetSO w D (c :: L))) else Pv (i + 1) H3) (hd : ∀ H, Pv xs.length H → Qd H) :
    ∃ W : Nat → Nat → Hp → Prop, (∃ m, W 0 m (upd H1 D (SetSO w D []))) ∧ ∀ i m H, W i m H →
      ((Itt K a).stop i H ∧ Qd H) ∨ ((Itt K a).go i H ∧ ∃ Nx : Hp → Prop, (∀ H', Nx H' → ∃ m', m' < m ∧ W (i + 1) m' H') ∧ ∀ x H', (Itt K a).yld i H x H' → g x (wipe σ vs) H' fun σ2 H2 => wipe σ2 vs = wipe σ vs ∧ tt σ2 H2 fun b H3 =>
        if b = true then te σ2 H3 fun y H4 => ∃ (c : Str) (L : List Str), y = .str c ∧ H4 D = some (SetSO w D L) ∧ (canon L).length + 1 < scanBound ∧ Nx (upd H4 D (SetSO w D (c :: L))) else Nx H3) := by
  refine ⟨fun i m H => m = xs.length - i ∧ i ≤ xs.length ∧ Pv i H, ⟨xs.length, by simp, Nat.zero_le _, h0⟩, ?_⟩
  rintro i m H ⟨rfl, hi, p⟩
  have q := hl i H hi p
  by_cases hlt : i < xs.length
  · refine .inr ⟨⟨xs, xs[i], q, by simp [hlt]⟩, Pv (i + 1), fun H' p' => ⟨xs.length - (i + 1), by omega, rfl, hlt, p'⟩, fun x H' y => ?_⟩
    obtain ⟨e, y⟩ := y
    subst e
    exact hs i x _ (y xs q) p
  · have e : i = xs.length := by omega
    subst e
    exact .inl ⟨⟨xs, q, Nat.le_refl _⟩, hd H p⟩

section
variable {X : Cx}
/-- len(a), a a set of texts -/
def rLenS (w : World) : List V → Hp → VK → Prop := fun vs H Q => ∃ (a : Addr) (L : List Str), vs = [V.ref a] ∧ H a = some (SetSO w a L) ∧ Q (.int (canon L).length) H
end
end TX
set_option Elab.async false
set_option linter.all false
set_option maxRecDepth 10000
set_option maxHeartbeats 1000000
/-! the plain law of least tables: rows of sets, grown along leads until nothing changes -/
namespace SL
open PySem TX
abbrev Row : Type := List (Option (List Str))
abbrev Tab : Type := List (Option Row)
theorem nodup_len {α : Type} [DecidableEq α] : ∀ (l D : List α), l.Nodup → (∀ x ∈ l, x ∈ D) → l.length ≤ D.length
  | [], D, _, _ => Nat.zero_le _
  | x :: l, D, h, hs => by
    obtain ⟨h1, h2⟩ := List.nodup_cons.mp h
    have hx := hs x List.mem_cons_self
    have ih := nodup_len l (D.erase x) h2 fun y hy => (List.mem_erase_of_ne (fun e => h1 (by rw [← e]; exact hy))).mpr (hs y (List.mem_cons_of_mem _ hy))
    rw [List.length_erase_of_mem hx] at ih
    have : 0 < D.length := List.length_pos_of_mem hx
    rw [List.length_cons]
    omega
theorem nodup_same {l D : List Str} (h : Srt l) (hD : Srt D) (hs : ∀ x ∈ l, x ∈ D) (hl : D.length ≤ l.length) : l = D := by
  refine h.ext hD fun k => ⟨hs k, fun hk => ?_⟩
  rcases Classical.em (k ∈ l) with q | q
  · exact q
  · exfalso
    have := nodup_len (k :: l) D (List.nodup_cons.mpr ⟨q, h.nodup⟩) fun x hx => by
      rcases List.mem_cons.mp hx with rfl | hx
      · exact hk
      · exact hs x hx
    rw [List.length_cons] at this
    omega
/-! ### sets -/
def leS : Option (List Str) → Option (List Str) → Prop
  | _, none => True
  | none, some _ => False
  | some x, some y => ∀ k ∈ x, k ∈ y
def jS : Option (List Str) → Option (List Str) → Option (List Str)
  | some a, some b => some (canon (a ++ b))
  | _, _ => none
def CanS (U : List Str) (s : Option (List Str)) : Prop := ∀ l, s = some l → Srt l ∧ ∀ k ∈ l, k ∈ U
theorem leS_refl : ∀ s, leS s s
  | none => trivial
  | some _ => fun _ h => h
theorem leS_trans : ∀ {a b c}, leS a b → leS b c → leS a c
  | _, _, none, _, _ => trivial
  | none, some _, some _, h, _ => h.elim
  | none, none, some _, _, h => h.elim
  | some _, none, some _, _, h => h.elim
  | some _, some _, some _, h, g => fun k hk => g k (h k hk)
theorem jS_l : ∀ a b, leS a (jS a b)
  | none, _ => by cases ‹Option (List Str)› <;> trivial
  | some _, none => trivial
  | some a, some b => fun k hk => mem_canon.mpr (List.mem_append.mpr (.inl hk))
theorem jS_r : ∀ a b, leS b (jS a b)
  | none, _ => by cases ‹Option (List Str)› <;> trivial
  | some _, none => trivial
  | some a, some b => fun k hk => mem_canon.mpr (List.mem_append.mpr (.inr hk))
theorem jS_lub : ∀ {a b c}, leS a c → leS b c → leS (jS a b) c
  | _, _, none, _, _ => trivial
  | none, _, some _, h, _ => h.elim
  | some _, none, some _, _, h => h.elim
  | some a, some b, some c, h, g => fun k hk => (List.mem_append.mp (mem_canon.mp hk)).elim (h k) (g k)
theorem jS_can {U a b} (ha : CanS U a) (hb : CanS U b) : CanS U (jS a b) := by
  intro l h
  cases a with
  | none => cases h
  | some x =>
    cases b with
    | none => cases h
    | some y =>
      obtain rfl := Option.some.inj h
      refine ⟨srt_canon _, fun k hk => ?_⟩
      rcases List.mem_append.mp (mem_canon.mp hk) with q | q
      · exact (ha x rfl).2 k q
      · exact (hb y rfl).2 k q
theorem leS_anti {U} : ∀ {a b}, CanS U a → CanS U b → leS a b → leS b a → a = b
  | none, none, _, _, _, _ => rfl
  | none, some _, _, _, h, _ => h.elim
  | some _, none, _, _, _, h => h.elim
  | some x, some y, ha, hb, h, g => congrArg some ((ha x rfl).1.ext (hb y rfl).1 fun k => ⟨h k, g k⟩)
def rkS (U : List Str) : Option (List Str) → Nat
  | none => U.length + 1
  | some l => l.length
theorem rkS_le {U s} (h : CanS U s) : rkS U s ≤ U.length + 1 := by
  cases s with
  | none => exact Nat.le_refl _
  | some l => exact Nat.le_succ_of_le (nodup_len l U (h l rfl).1.nodup (h l rfl).2)
theorem rkS_mono {U a b} (ha : CanS U a) (hb : CanS U b) (h : leS a b) : rkS U a ≤ rkS U b ∧ (rkS U b ≤ rkS U a → a = b) := by
  cases b with
  | none =>
    cases a with
    | none => exact ⟨Nat.le_refl _, fun _ => rfl⟩
    | some x =>
      have := nodup_len x U (ha x rfl).1.nodup (ha x rfl).2
      refine ⟨rkS_le ha, fun z => ?_⟩
      have z' : U.length + 1 ≤ x.length := z
      omega
  | some y =>
    cases a with
    | none => exact h.elim
    | some x => exact ⟨nodup_len x y (ha x rfl).1.nodup h, fun z => congrArg some (nodup_same (ha x rfl).1 (hb y rfl).1 h z)⟩
/-! ### rows -/
def leR : Row → Row → Prop
  | [], [] => True
  | a :: r, b :: s => leS a b ∧ leR r s
  | _, _ => False
theorem leR_refl : ∀ r, leR r r
  | [] => trivial
  | a :: r => ⟨leS_refl a, leR_refl r⟩
theorem leR_len : ∀ {a b}, leR a b → a.length = b.length
  | [], [], _ => rfl
  | _ :: _, _ :: _, h => congrArg (· + 1) (leR_len h.2)
  | [], _ :: _, h => h.elim
  | _ :: _, [], h => h.elim
theorem leR_trans : ∀ {a b c}, leR a b → leR b c → leR a c
  | [], [], [], _, _ => trivial
  | _ :: _, _ :: _, _ :: _, h, g => ⟨leS_trans h.1 g.1, leR_trans h.2 g.2⟩
  | [], _ :: _, _, h, _ => h.elim
  | _ :: _, [], _, h, _ => h.elim
  | [], [], _ :: _, _, h => h.elim
  | _ :: _, _ :: _, [], _, h => h.elim
theorem leR_get : ∀ {a b : Row}, leR a b → ∀ {i : Nat} {s}, a[i]? = some s → ∃ t, b[i]? = some t ∧ leS s t
  | [], [], _, i, s, e => by simp at e
  | x :: a, y :: b, h, 0, s, e => by simp at e; subst e; exact ⟨y, rfl, h.1⟩
  | x :: a, y :: b, h, i + 1, s, e => by simp only [List.getElem?_cons_succ] at e ⊢; exact leR_get h.2 e
  | [], _ :: _, h, _, _, _ => h.elim
  | _ :: _, [], h, _, _, _ => h.elim
theorem leR_set : ∀ {a b : Row}, leR a b → ∀ {s t}, leS s t → ∀ (i : Nat), leR (a.set i s) (b.set i t)
  | [], [], _, _, _, _, _ => trivial
  | _ :: _, _ :: _, h, _, _, g, 0 => ⟨g, h.2⟩
  | _ :: _, _ :: _, h, _, _, g, i + 1 => ⟨h.1, leR_set h.2 g i⟩
  | [], _ :: _, h, _, _, _, _ => h.elim
  | _ :: _, [], h, _, _, _, _ => h.elim
def CanR (U : List Str) (m : Nat) (r : Row) : Prop := r.length = m ∧ ∀ s ∈ r, CanS U s
theorem CanR.tl {U m a r} (h : CanR U (m + 1) (a :: r)) : CanR U m r := ⟨Nat.succ.inj h.1, fun s hs => h.2 s (List.mem_cons_of_mem _ hs)⟩
theorem CanR.hd {U m a r} (h : CanR U m (a :: r)) : CanS U a := h.2 a List.mem_cons_self
theorem CanR.set {U m} {r : Row} (h : CanR U m r) {s} (hs : CanS U s) (i : Nat) : CanR U m (r.set i s) := by
  refine ⟨by rw [List.length_set]; exact h.1, fun t ht => ?_⟩
  rcases List.mem_or_eq_of_mem_set ht with q | q
  · exact h.2 t q
  · rw [q]; exact hs
theorem leR_anti {U} : ∀ {m a b}, CanR U m a → CanR U m b → leR a b → leR b a → a = b
  | _, [], [], _, _, _, _ => rfl
  | 0, _ :: _, _, h, _, _, _ => by cases h.1
  | m + 1, x :: a, y :: b, ha, hb, h, g => by rw [leS_anti ha.hd hb.hd h.1 g.1, leR_anti ha.tl hb.tl h.2 g.2]
  | _, [], _ :: _, _, _, h, _ => h.elim
  | _, _ :: _, [], _, _, h, _ => h.elim
def jR (a b : Row) : Row := List.zipWith jS a b
theorem jR_l : ∀ {a b : Row}, a.length = b.length → leR a (jR a b)
  | [], [], _ => trivial
  | x :: a, y :: b, h => ⟨jS_l x y, jR_l (Nat.succ.inj h)⟩
  | [], _ :: _, h => by cases h
  | _ :: _, [], h => by cases h
theorem jR_r : ∀ {a b : Row}, a.length = b.length → leR b (jR a b)
  | [], [], _ => trivial
  | x :: a, y :: b, h => ⟨jS_r x y, jR_r (Nat.succ.inj h)⟩
  | [], _ :: _, h => by cases h
  | _ :: _, [], h => by cases h
theorem jR_lub : ∀ {a b c : Row}, leR a c → leR b c → leR (jR a b) c
  | [], [], [], _, _ => trivial
  | x :: a, y :: b, z :: c, h, g => ⟨jS_lub h.1 g.1, jR_lub h.2 g.2⟩
  | [], _, _ :: _, h, _ => h.elim
  | _ :: _, _, [], h, _ => h.elim
  | [], _ :: _, [], _, h => h.elim
  | _ :: _, [], _ :: _, _, h => h.elim
theorem jR_can {U} : ∀ {m} {a b : Row}, CanR U m a → CanR U m b → CanR U m (jR a b)
  | _, [], [], h, _ => ⟨h.1, fun s hs => by cases hs⟩
  | 0, _ :: _, _, h, _ => by cases h.1
  | m + 1, x :: a, y :: b, ha, hb => by
    obtain ⟨l, k⟩ := jR_can ha.tl hb.tl
    refine ⟨congrArg (· + 1) l, fun s hs => ?_⟩
    rcases List.mem_cons.mp hs with rfl | hs
    · exact jS_can ha.hd hb.hd
    · exact k s hs
  | _, [], _ :: _, ha, hb => by have := ha.1.trans hb.1.symm; cases this
  | _ + 1, _ :: _, [], ha, hb => by have := ha.1.trans hb.1.symm; cases this
def rkR (U : List Str) : Row → Nat
  | [] => 0
  | s :: r => rkS U s + rkR U r
theorem rkR_le {U} : ∀ {m r}, CanR U m r → rkR U r ≤ m * (U.length + 1)
  | 0, [], _ => Nat.zero_le _
  | 0, _ :: _, h => by cases h.1
  | m + 1, [], h => by cases h.1
  | m + 1, s :: r, h => by
    have h1 := rkS_le h.hd
    have h2 := rkR_le h.tl
    rw [Nat.succ_mul]
    show rkS U s + rkR U r ≤ _
    omega
theorem rkR_mono {U} : ∀ {m a b}, CanR U m a → CanR U m b → leR a b → rkR U a ≤ rkR U b ∧ (rkR U b ≤ rkR U a → a = b)
  | _, [], [], _, _, _ => ⟨Nat.le_refl _, fun _ => rfl⟩
  | 0, _ :: _, _, h, _, _ => by cases h.1
  | m + 1, x :: a, y :: b, ha, hb, h => by
    obtain ⟨h1, h2⟩ := rkS_mono ha.hd hb.hd h.1
    obtain ⟨h3, h4⟩ := rkR_mono ha.tl hb.tl h.2
    refine ⟨Nat.add_le_add h1 h3, fun z => ?_⟩
    have z' : rkS U y + rkR U b ≤ rkS U x + rkR U a := z
    rw [h2 (by omega), h4 (by omega)]
  | _, [], _ :: _, _, _, h => h.elim
  | _, _ :: _, [], _, _, h => h.elim
/-- the row behind a lead -/
def newR : Option Row → Row → Row
  | none, r => r
  | some a, r => jR a r
theorem newR_can {U m o r} (ho : ∀ a, o = some a → CanR U m a) (hr : CanR U m r) : CanR U m (newR o r) := by
  cases o with
  | none => exact hr
  | some a => exact jR_can (ho a rfl) hr
theorem newR_r {U m o r} (ho : ∀ a, o = some a → CanR U m a) (hr : CanR U m r) : leR r (newR o r) := by
  cases o with
  | none => exact leR_refl r
  | some a => exact jR_r ((ho a rfl).1.trans hr.1.symm)
theorem newR_l {U m a r} (ho : CanR U m a) (hr : CanR U m r) : leR a (newR (some a) r) := jR_l (ho.1.trans hr.1.symm)
theorem newR_same {U m a r} (ha : CanR U m a) (hr : CanR U m r) (h : leR r a) : newR (some a) r = a :=
  leR_anti (jR_can ha hr) ha (jR_lub (leR_refl a) h) (newR_l ha hr)
/-! ### tables -/
section
variable (U : List Str) (m n : Nat) (F : Nat → Row → List (Nat × Row)) (b : Row)
/-- leads keep rows as they should be, and grow with them -/
structure Mono : Prop where
  can : ∀ {i r}, i < n → CanR U m r → ∀ p ∈ F i r, CanR U m p.2
  mono : ∀ {i r r'}, i < n → CanR U m r → CanR U m r' → leR r r' → ∀ p ∈ F i r, ∃ p' ∈ F i r', p'.1 = p.1 ∧ leR p.2 p'.2
def Good (T : Tab) : Prop := T.length = n ∧ ∀ r, some r ∈ T → CanR U m r
/-- at i stands at least r -/
def At (T : Tab) (i : Nat) (r : Row) : Prop := ∃ r', T[i]? = some (some r') ∧ leR r r'
/-- all leads of i are taken in -/
def Done (T : Tab) (i : Nat) : Prop := ∀ r, T[i]? = some (some r) → ∀ p ∈ F i r, p.1 < n → At T p.1 p.2
def Closed (T : Tab) : Prop := ∀ i, i < n → Done n F T i
structure Post (T : Tab) : Prop where
  good : Good U m n T
  beg : At T 0 b
  closed : Closed n F T
/-- every closed table has at least r at i -/
def Low (i : Nat) (r : Row) : Prop := ∀ T, Post U m n F b T → At T i r
structure Least (T : Tab) : Prop where
  post : Post U m n F b T
  low : ∀ i r, T[i]? = some (some r) → Low U m n F b i r
end
section
variable {U : List Str} {m n : Nat} {F : Nat → Row → List (Nat × Row)} {b : Row}
theorem Good.row {T : Tab} {i : Nat} {r : Row} (g : Good U m n T) (h : T[i]? = some (some r)) : CanR U m r := g.2 r (List.mem_of_getElem? h)
theorem Least.uniq {A B : Tab} (a : Least U m n F b A) (c : Least U m n F b B) : A = B := by
  apply List.ext_getElem?
  intro i
  by_cases hi : i < n
  · have ha : i < A.length := by rw [a.post.good.1]; exact hi
    have hb : i < B.length := by rw [c.post.good.1]; exact hi
    rw [List.getElem?_eq_getElem ha, List.getElem?_eq_getElem hb]
    congr 1
    cases ea : A[i] with
    | none =>
      cases eb : B[i] with
      | none => rfl
      | some r =>
        obtain ⟨r', h, _⟩ := c.low i r (by rw [List.getElem?_eq_getElem hb, eb]) A a.post
        rw [List.getElem?_eq_getElem ha, ea] at h
        cases h
    | some r =>
      have hA : A[i]? = some (some r) := by rw [List.getElem?_eq_getElem ha, ea]
      obtain ⟨r', h, le⟩ := a.low i r hA B c.post
      obtain ⟨r2, h2, le2⟩ := c.low i r' h A a.post
      rw [hA] at h2
      cases h2
      have e : r = r' := leR_anti (a.post.good.row hA) (c.post.good.row h) le le2
      rw [List.getElem?_eq_getElem hb] at h
      rw [Option.some.inj h, e]
  · rw [List.getElem?_eq_none (by rw [a.post.good.1]; omega), List.getElem?_eq_none (by rw [c.post.good.1]; omega)]
theorem Low.lead (M : Mono U m n F) {i : Nat} {r : Row} (hi : i < n) (hr : CanR U m r) (h : Low U m n F b i r) {p : Nat × Row} (hp : p ∈ F i r) (ht : p.1 < n) : Low U m n F b p.1 p.2 := by
  intro T q
  obtain ⟨r', e, le⟩ := h T q
  obtain ⟨p', hp', e1, le1⟩ := M.mono hi hr (q.good.row e) le p hp
  obtain ⟨r2, e2, le2⟩ := q.closed i hi r' e p' hp' (by rw [e1]; exact ht)
  rw [e1] at e2
  exact ⟨r2, e2, leR_trans le1 le2⟩
theorem Low.new {i : Nat} {o : Option Row} {r : Row} (ho : ∀ a, o = some a → Low U m n F b i a) (h : Low U m n F b i r) : Low U m n F b i (newR o r) := by
  cases o with
  | none => exact h
  | some a =>
    intro T q
    obtain ⟨r1, e1, l1⟩ := ho a rfl T q
    obtain ⟨r2, e2, l2⟩ := h T q
    rw [e1] at e2
    cases e2
    exact ⟨r1, e1, jR_lub l1 l2⟩
/-- the room that is left -/
def rkO (U : List Str) : Option Row → Nat
  | none => 0
  | some r => 1 + rkR U r
def cap (U : List Str) (m : Nat) : Nat := 1 + m * (U.length + 1)
def pot (U : List Str) (m : Nat) : Tab → Nat
  | [] => 0
  | o :: T => (cap U m - rkO U o) + pot U m T
theorem pot_le (U : List Str) (m : Nat) : ∀ T : Tab, pot U m T ≤ T.length * cap U m
  | [] => by simp [pot]
  | o :: T => by
    have := pot_le U m T
    rw [List.length_cons, Nat.succ_mul]
    show (cap U m - rkO U o) + pot U m T ≤ _
    omega
theorem pot_set : ∀ {T : Tab} {i : Nat} {o o' : Option Row}, T[i]? = some o → rkO U o < rkO U o' → rkO U o' ≤ cap U m → pot U m (T.set i o') < pot U m T
  | [], i, o, o', h, _, _ => by simp at h
  | x :: T, 0, o, o', h, l1, l2 => by
    simp at h
    subst h
    show (cap U m - rkO U o') + pot U m T < (cap U m - rkO U x) + pot U m T
    omega
  | x :: T, i + 1, o, o', h, l1, l2 => by
    simp only [List.getElem?_cons_succ] at h
    have := pot_set (T := T) h l1 l2
    show (cap U m - rkO U x) + pot U m (T.set i o') < (cap U m - rkO U x) + pot U m T
    omega
theorem pot_new {T : Tab} {t : Nat} {o : Option Row} {r : Row} (g : Good U m n T) (h : T[t]? = some o) (hr : CanR U m r) (ne : some (newR o r) ≠ o) : pot U m (T.set t (some (newR o r))) < pot U m T := by
  have ho : ∀ a, o = some a → CanR U m a := fun a e => by subst e; exact g.row h
  have hn := newR_can ho hr
  refine pot_set h ?_ ?_
  · cases o with
    | none => show 0 < 1 + _; omega
    | some a =>
      obtain ⟨l1, l2⟩ := rkR_mono (ho a rfl) hn (newR_l (ho a rfl) hr)
      show 1 + rkR U a < 1 + rkR U (newR (some a) r)
      rcases Nat.lt_or_ge (rkR U a) (rkR U (newR (some a) r)) with z | z
      · omega
      · exact absurd (congrArg some (l2 z).symm) ne
  · have := rkR_le hn
    show 1 + rkR U _ ≤ 1 + m * (U.length + 1)
    omega
/-- a table with another row -/
theorem Good.put {T : Tab} {t : Nat} {r : Row} (g : Good U m n T) (hr : CanR U m r) : Good U m n (T.set t (some r)) := by
  refine ⟨by rw [List.length_set]; exact g.1, fun s hs => ?_⟩
  rcases List.mem_or_eq_of_mem_set hs with q | q
  · exact g.2 s q
  · cases q; exact hr
theorem At.put {T : Tab} {t i : Nat} {o : Option Row} {r x : Row} (g : Good U m n T) (h : T[t]? = some o) (hr : CanR U m r) (a : At T i x) : At (T.set t (some (newR o r))) i x := by
  obtain ⟨y, e, le⟩ := a
  by_cases hi : t = i
  · subst hi
    rw [e] at h
    cases h
    have hl : t < T.length := (List.getElem?_eq_some_iff.mp e).1
    exact ⟨_, by rw [List.getElem?_set_self hl], leR_trans le (newR_l (g.row e) hr)⟩
  · exact ⟨y, by rw [List.getElem?_set_ne hi]; exact e, le⟩
theorem At.put_self {T : Tab} {t : Nat} {o : Option Row} {r : Row} (g : Good U m n T) (h : T[t]? = some o) (hr : CanR U m r) : At (T.set t (some (newR o r))) t r := by
  have hl : t < T.length := (List.getElem?_eq_some_iff.mp h).1
  exact ⟨_, by rw [List.getElem?_set_self hl], newR_r (fun a e => by subst e; exact g.row h) hr⟩
end
end SL
set_option Elab.async false
set_option linter.all false
set_option maxRecDepth 10000
set_option maxHeartbeats 1000000
/-! the plain law of least tables: the line of work, the rounds; instructions -/
namespace SL
open PySem PySem.Spec TX
section
variable (U : List Str) (m n : Nat) (F : Nat → Row → List (Nat × Row)) (b : Row)
/-- what both ways of growing keep -/
structure Grow (T : Tab) : Prop where
  good : Good U m n T
  beg : At T 0 b
  low : ∀ i r, T[i]? = some (some r) → Low U m n F b i r
structure WInv (T : Tab) (line : List Nat) : Prop where
  g : Grow U m n F b T
  opn : ∀ i, i < n → Done n F T i ∨ i ∈ line
  lin : ∀ i ∈ line, i < n ∧ ∃ r, T[i]? = some (some r)
structure WIn (T : Tab) (line : List Nat) (x : Nat) (r0 : Row) (done : List (Nat × Row)) : Prop where
  g : Grow U m n F b T
  low0 : Low U m n F b x r0
  opn : ∀ i, i < n → i ≠ x → Done n F T i ∨ i ∈ line
  self : x ∈ line ∨ T[x]? = some (some r0)
  lin : ∀ i ∈ line, i < n ∧ ∃ r, T[i]? = some (some r)
  dn : ∀ p ∈ done, p.1 < n → At T p.1 p.2
end
section
variable {U : List Str} {m n : Nat} {F : Nat → Row → List (Nat × Row)} {b : Row} {T : Tab}
theorem put_same {t : Nat} {o : Option Row} (h : T[t]? = some o) (r : Row) (e : some (newR o r) = o) : T.set t (some (newR o r)) = T := by
  rw [e]
  apply List.ext_getElem?
  intro i
  by_cases hi : t = i
  · subst hi
    have hl := (List.getElem?_eq_some_iff.mp h).1
    rw [List.getElem?_set_self hl, h]
  · rw [List.getElem?_set_ne hi]
theorem Grow.put {t : Nat} {o : Option Row} {r : Row} (g : Grow U m n F b T) (h : T[t]? = some o) (hr : CanR U m r) (lo : Low U m n F b t r) : Grow U m n F b (T.set t (some (newR o r))) := by
  have hc : ∀ a, o = some a → CanR U m a := fun a e => by subst e; exact g.good.row h
  refine ⟨g.good.put (newR_can hc hr), g.beg.put g.good h hr, fun i s e => ?_⟩
  by_cases hi : t = i
  · subst hi
    have hl := (List.getElem?_eq_some_iff.mp h).1
    rw [List.getElem?_set_self hl] at e
    cases e
    exact Low.new (fun a ea => g.low t a (by rw [h, ea])) lo
  · rw [List.getElem?_set_ne hi] at e
    exact g.low i s e
theorem Done.put {t i : Nat} {o : Option Row} {r : Row} (g : Good U m n T) (h : T[t]? = some o) (hr : CanR U m r) (ne : t ≠ i) (d : Done n F T i) : Done n F (T.set t (some (newR o r))) i := by
  intro s e p hp ht
  rw [List.getElem?_set_ne ne] at e
  exact (d s e p hp ht).put g h hr
/-- the beginning -/
theorem grow0 (hn : 0 < n) (hb : CanR U m b) : Grow U m n F b ((List.replicate n none).set 0 (some b)) := by
  have h0 : ((List.replicate n (none : Option Row)).set 0 (some b))[0]? = some (some b) := by rw [List.getElem?_set_self (by simpa using hn)]
  refine ⟨⟨by simp, fun r hr => ?_⟩, ⟨b, h0, leR_refl b⟩, fun i r e => ?_⟩
  · rcases List.mem_or_eq_of_mem_set hr with q | q
    · have := (List.mem_replicate.mp q).2; cases this
    · cases q; exact hb
  · by_cases hi : 0 = i
    · subst hi
      rw [h0] at e
      cases e
      exact fun T q => q.beg
    · rw [List.getElem?_set_ne hi] at e
      have := (List.mem_replicate.mp (List.mem_of_getElem? e)).2
      cases this
theorem winv0 (hn : 0 < n) (hb : CanR U m b) : WInv U m n F b ((List.replicate n none).set 0 (some b)) [0] := by
  have h0 : ((List.replicate n (none : Option Row)).set 0 (some b))[0]? = some (some b) := by rw [List.getElem?_set_self (by simpa using hn)]
  refine ⟨grow0 hn hb, fun i hi => ?_, fun i hi => ?_⟩
  · by_cases h : 0 = i
    · subst h; exact .inr (List.mem_singleton.mpr rfl)
    · refine .inl fun r e => ?_
      rw [List.getElem?_set_ne h] at e
      have := (List.mem_replicate.mp (List.mem_of_getElem? e)).2
      cases this
  · obtain rfl := List.mem_singleton.mp hi
    exact ⟨hn, b, h0⟩
theorem WInv.pop {line : List Nat} {x : Nat} (w : WInv U m n F b T (line ++ [x])) : ∃ r0, T[x]? = some (some r0) ∧ x < n ∧ CanR U m r0 ∧ WIn U m n F b T line x r0 [] := by
  obtain ⟨hx, r0, e⟩ := w.lin x (List.mem_append.mpr (.inr (List.mem_singleton.mpr rfl)))
  refine ⟨r0, e, hx, w.g.good.row e, w.g, w.g.low x r0 e, fun i hi ne => ?_, .inr e, fun i hi => w.lin i (List.mem_append.mpr (.inl hi)), fun p hp => nomatch hp⟩
  rcases w.opn i hi with h | h
  · exact .inl h
  · rcases List.mem_append.mp h with h | h
    · exact .inr h
    · exact absurd (List.mem_singleton.mp h) ne
theorem WIn.skip {line : List Nat} {x : Nat} {r0 : Row} {done : List (Nat × Row)} {p : Nat × Row} (w : WIn U m n F b T line x r0 done) (h : n ≤ p.1) : WIn U m n F b T line x r0 (done ++ [p]) :=
  ⟨w.g, w.low0, w.opn, w.self, w.lin, fun q hq ht => (List.mem_append.mp hq).elim (fun h => w.dn q h ht) fun h => by rw [List.mem_singleton.mp h] at ht; omega⟩
theorem WIn.same {line : List Nat} {x : Nat} {r0 : Row} {done : List (Nat × Row)} {p : Nat × Row} {o : Option Row} (w : WIn U m n F b T line x r0 done) (h : T[p.1]? = some o) (hr : CanR U m p.2) (e : some (newR o p.2) = o) : WIn U m n F b T line x r0 (done ++ [p]) := by
  refine ⟨w.g, w.low0, w.opn, w.self, w.lin, fun q hq ht => (List.mem_append.mp hq).elim (fun h => w.dn q h ht) fun hq => ?_⟩
  rw [List.mem_singleton.mp hq]
  have := At.put_self w.g.good h hr
  rw [put_same h _ e] at this
  exact this
theorem WIn.step (M : Mono U m n F) {line : List Nat} {x : Nat} {r0 : Row} {done : List (Nat × Row)} {p : Nat × Row} {o : Option Row} (w : WIn U m n F b T line x r0 done) (hx : x < n) (h0 : CanR U m r0) (hp : p ∈ F x r0) (hn : p.1 < n) (h : T[p.1]? = some o) :
    WIn U m n F b (T.set p.1 (some (newR o p.2))) (line ++ [p.1]) x r0 (done ++ [p]) := by
  have hr := M.can hx h0 p hp
  have hl := (List.getElem?_eq_some_iff.mp h).1
  refine ⟨w.g.put h hr (w.low0.lead M hx h0 hp hn), w.low0, fun i hi ne => ?_, ?_, fun i hi => ?_, fun q hq ht => ?_⟩
  · by_cases e : p.1 = i
    · exact .inr (List.mem_append.mpr (.inr (List.mem_singleton.mpr e.symm)))
    · exact (w.opn i hi ne).imp (fun d => d.put w.g.good h hr e) fun k => List.mem_append.mpr (.inl k)
  · by_cases e : p.1 = x
    · exact .inl (List.mem_append.mpr (.inr (List.mem_singleton.mpr e.symm)))
    · rcases w.self with k | k
      · exact .inl (List.mem_append.mpr (.inl k))
      · exact .inr (by rw [List.getElem?_set_ne e]; exact k)
  · rcases List.mem_append.mp hi with k | k
    · obtain ⟨a, r, e⟩ := w.lin i k
      refine ⟨a, ?_⟩
      by_cases e2 : p.1 = i
      · subst e2; exact ⟨_, List.getElem?_set_self hl⟩
      · exact ⟨r, by rw [List.getElem?_set_ne e2]; exact e⟩
    · obtain rfl := List.mem_singleton.mp k
      exact ⟨hn, _, List.getElem?_set_self hl⟩
  · rcases List.mem_append.mp hq with k | k
    · exact (w.dn q k ht).put w.g.good h hr
    · rw [List.mem_singleton.mp k]
      exact At.put_self w.g.good h hr
theorem WIn.fin {line : List Nat} {x : Nat} {r0 : Row} (w : WIn U m n F b T line x r0 (F x r0)) : WInv U m n F b T line := by
  refine ⟨w.g, fun i hi => ?_, w.lin⟩
  by_cases e : i = x
  · subst e
    rcases w.self with k | k
    · exact .inr k
    · refine .inl fun r er p hp ht => ?_
      rw [k] at er
      cases er
      exact w.dn p hp ht
  · exact w.opn i hi e
theorem WInv.least (w : WInv U m n F b T []) : Least U m n F b T :=
  ⟨⟨w.g.good, w.g.beg, fun i hi => (w.opn i hi).elim id fun h => nomatch h⟩, w.g.low⟩
/-! ### rounds -/
variable (U m n F b) in
/-- within a round: P0 the room at its beginning -/
structure RInv (P0 : Nat) (T : Tab) (ch : Bool) (x : Nat) : Prop where
  g : Grow U m n F b T
  le : pot U m T ≤ P0
  lt : ch = true → pot U m T < P0
  dn : ch = false → ∀ i, i < x → Done n F T i
variable (U m n F b) in
structure RIn (P0 : Nat) (T : Tab) (ch : Bool) (x : Nat) (r0 : Row) (done : List (Nat × Row)) : Prop where
  g : Grow U m n F b T
  low0 : Low U m n F b x r0
  le : pot U m T ≤ P0
  lt : ch = true → pot U m T < P0
  dn : ch = false → (∀ i, i < x → Done n F T i) ∧ T[x]? = some (some r0) ∧ ∀ p ∈ done, p.1 < n → At T p.1 p.2
theorem RInv.enter {P0 : Nat} {ch : Bool} {x : Nat} {r0 : Row} (w : RInv U m n F b P0 T ch x) (h : T[x]? = some (some r0)) : RIn U m n F b P0 T ch x r0 [] :=
  ⟨w.g, w.g.low x r0 h, w.le, w.lt, fun e => ⟨w.dn e, h, fun p hp => nomatch hp⟩⟩
theorem RInv.pass {P0 : Nat} {ch : Bool} {x : Nat} (w : RInv U m n F b P0 T ch x) (h : T[x]? = some none) : RInv U m n F b P0 T ch (x + 1) :=
  ⟨w.g, w.le, w.lt, fun e i hi => by
    rcases Nat.lt_or_ge i x with k | k
    · exact w.dn e i k
    · have : i = x := by omega
      subst this
      intro r er
      rw [h] at er
      cases er⟩
theorem RIn.same {P0 : Nat} {ch : Bool} {x : Nat} {r0 : Row} {done : List (Nat × Row)} {p : Nat × Row} (w : RIn U m n F b P0 T ch x r0 done) (h : p.1 < n → ∃ o, T[p.1]? = some o ∧ some (newR o p.2) = o) (hr : CanR U m p.2) : RIn U m n F b P0 T ch x r0 (done ++ [p]) := by
  refine ⟨w.g, w.low0, w.le, w.lt, fun e => ⟨(w.dn e).1, (w.dn e).2.1, fun q hq ht => (List.mem_append.mp hq).elim (fun h => (w.dn e).2.2 q h ht) fun hq => ?_⟩⟩
  rw [List.mem_singleton.mp hq] at ht ⊢
  obtain ⟨o, h1, h2⟩ := h ht
  have := At.put_self w.g.good h1 hr
  rw [put_same h1 _ h2] at this
  exact this
theorem RIn.step (M : Mono U m n F) {P0 : Nat} {ch : Bool} {x : Nat} {r0 : Row} {done : List (Nat × Row)} {p : Nat × Row} {o : Option Row} (w : RIn U m n F b P0 T ch x r0 done) (hx : x < n) (h0 : CanR U m r0) (hp : p ∈ F x r0) (hn : p.1 < n) (h : T[p.1]? = some o) (ne : some (newR o p.2) ≠ o) :
    RIn U m n F b P0 (T.set p.1 (some (newR o p.2))) true x r0 (done ++ [p]) := by
  have hr := M.can hx h0 p hp
  have lt := pot_new w.g.good h hr ne
  exact ⟨w.g.put h hr (w.low0.lead M hx h0 hp hn), w.low0, Nat.le_of_lt (Nat.lt_of_lt_of_le lt w.le), fun _ => Nat.lt_of_lt_of_le lt w.le, fun e => nomatch e⟩
theorem RIn.leave {P0 : Nat} {ch : Bool} {x : Nat} {r0 : Row} (w : RIn U m n F b P0 T ch x r0 (F x r0)) : RInv U m n F b P0 T ch (x + 1) :=
  ⟨w.g, w.le, w.lt, fun e i hi => by
    rcases Nat.lt_or_ge i x with k | k
    · exact (w.dn e).1 i k
    · have : i = x := by omega
      subst this
      intro r er p hp ht
      rw [(w.dn e).2.1] at er
      cases er
      exact (w.dn e).2.2 p hp ht⟩
theorem RInv.start (g : Grow U m n F b T) : RInv U m n F b (pot U m T) T false 0 := ⟨g, Nat.le_refl _, (fun e => nomatch e), fun _ i hi => absurd hi (Nat.not_lt_zero _)⟩
theorem RInv.least {P0 : Nat} (w : RInv U m n F b P0 T false n) : Least U m n F b T := ⟨⟨w.g.good, w.g.beg, fun i hi => w.dn rfl i hi⟩, w.g.low⟩
end
/-! ### instructions -/
inductive Ins
  | new (r : Nat) (c : Str)
  | array (r : Nat) (c : Str) (k : Int)
  | null (r : Nat)
  | move (r s : Nat)
  | get (r s : Nat) (c f t : Str)
  | put (r s : Nat) (c f t : Str)
  | call (r s : Nat) (c f : Str) (ks : List PyData) (t : Str) (as : List PyData)
  | ask (r s : Nat) (c f : Str) (ks : List PyData) (t : Str) (as : List PyData)
  | cast (r s : Nat) (c : Str)
  | load (r s : Nat) (k : Int)
  | store (r s : Nat) (k : Int)
  | jump (t : Nat)
  | ifnull (r t : Nat)
  | ifis (r : Nat) (c : Str) (t : Nat)
  | choose (t : Nat)
  | tell (r : Nat)
  | ret (r : Nat)
def dN (i : Nat) : PyData := .int i
def Ins.word : Ins → Str
  | .new .. => "new" | .array .. => "array" | .null .. => "null" | .move .. => "move" | .get .. => "get" | .put .. => "put" | .call .. => "call" | .ask .. => "ask" | .cast .. => "cast" | .load .. => "load"
  | .store .. => "store" | .jump .. => "jump" | .ifnull .. => "ifnull" | .ifis .. => "ifis" | .choose .. => "choose" | .tell .. => "tell" | .ret .. => "return"
def Ins.rest : Ins → List PyData
  | .new r c => [dN r, .str c]
  | .array r c k => [dN r, .str c, .int k]
  | .null r => [dN r]
  | .move r s => [dN r, dN s]
  | .get r s c f t => [dN r, dN s, .str c, .str f, .str t]
  | .put r s c f t => [dN r, .str c, .str f, .str t, dN s]
  | .call r s c f ks t as => [dN r, dN s, .str c, .str f, .tuple ks, .str t, .tuple as]
  | .ask r s c f ks t as => [dN r, dN s, .str c, .str f, .tuple ks, .str t, .tuple as]
  | .cast r s c => [dN r, dN s, .str c]
  | .load r s k => [dN r, dN s, .int k]
  | .store r s k => [dN r, .int k, dN s]
  | .jump t => [dN t]
  | .ifnull r t => [dN r, dN t]
  | .ifis r c t => [dN r, .str c, dN t]
  | .choose t => [dN t]
  | .tell r => [dN r]
  | .ret r => [dN r]
def Ins.data (i : Ins) : PyData := .tuple (.str i.word :: i.rest)
def brk : Str := "[]"
def eb (z : Str) : Bool := Txt.endswith z brk
def c2 (z : Str) : Str := L2.cutS z none (some (-2))
def elem (z : Str) : Option Str := if eb z = true then some (c2 z) else none
def elems : Option (List Str) → Option (List Str)
  | none => none
  | some l => some (canon (l.filterMap elem))
def made (row : Row) : Ins → Option (List Str)
  | .new _ c => some [c]
  | .array _ c _ => some [c ++ brk]
  | .null _ => some []
  | .move _ s => row.getD s none
  | .get _ _ _ _ t => some [t]
  | .call _ _ _ _ _ t _ => some [t]
  | .ask _ _ _ _ _ t _ => some [t]
  | .cast _ _ c => some [c]
  | .load _ s _ => elems (row.getD s none)
  | _ => none
def lead (x : Nat) (row : Row) : Ins → List (Nat × Row)
  | .ret _ => []
  | .jump t => [(t, row)]
  | .choose t => [(x + 1, row), (t, row)]
  | .ifnull r t => [(x + 1, row), (t, row.set r (some []))]
  | .ifis r c t => [(x + 1, row), (t, row.set r (some [c]))]
  | .put .. => [(x + 1, row)]
  | .store .. => [(x + 1, row)]
  | .tell _ => [(x + 1, row)]
  | .new r c => [(x + 1, row.set r (made row (.new r c)))]
  | .array r c k => [(x + 1, row.set r (made row (.array r c k)))]
  | .null r => [(x + 1, row.set r (made row (.null r)))]
  | .move r s => [(x + 1, row.set r (made row (.move r s)))]
  | .get r s c f t => [(x + 1, row.set r (made row (.get r s c f t)))]
  | .call r s c f ks t as => [(x + 1, row.set r (made row (.call r s c f ks t as)))]
  | .ask r s c f ks t as => [(x + 1, row.set r (made row (.ask r s c f ks t as)))]
  | .cast r s c => [(x + 1, row.set r (made row (.cast r s c)))]
  | .load r s k => [(x + 1, row.set r (made row (.load r s k)))]
def leads (is : List Ins) (x : Nat) (row : Row) : List (Nat × Row) := match is[x]? with
  | some i => lead x row i
  | none => []
/-- an instruction's names are of U, its drawers below m -/
def Wf (U : List Str) (m : Nat) : Ins → Prop
  | .new r c => r < m ∧ c ∈ U
  | .array r c _ => r < m ∧ (c ++ brk) ∈ U
  | .null r => r < m
  | .move r s => r < m ∧ s < m
  | .get r s _ _ t => r < m ∧ s < m ∧ t ∈ U
  | .put r s _ _ _ => r < m ∧ s < m
  | .call r s _ _ _ t _ => r < m ∧ s < m ∧ t ∈ U
  | .ask r s _ _ _ t _ => r < m ∧ s < m ∧ t ∈ U
  | .cast r s c => r < m ∧ s < m ∧ c ∈ U
  | .load r s _ => r < m ∧ s < m
  | .store r s _ => r < m ∧ s < m
  | .jump _ => True
  | .ifnull r _ => r < m
  | .ifis r c _ => r < m ∧ c ∈ U
  | .choose _ => True
  | .tell r => r < m
  | .ret r => r < m
section
variable {U : List Str} {m : Nat}
theorem can1 {c : Str} (h : c ∈ U) : CanS U (some [c]) := fun l e => by cases e; exact ⟨List.pairwise_singleton _ _, fun k hk => by rw [List.mem_singleton.mp hk]; exact h⟩
theorem can0 : CanS U (some []) := fun l e => by cases e; exact ⟨List.Pairwise.nil, fun k hk => nomatch hk⟩
theorem canG {row : Row} (h : CanR U m row) (s : Nat) : CanS U (row.getD s none) := by
  rw [List.getD_eq_getElem?_getD]
  cases e : row[s]? with
  | none => exact fun l q => nomatch q
  | some x => exact h.2 x (List.mem_of_getElem? e)
theorem canE (hU : ∀ z ∈ U, ∀ y, elem z = some y → y ∈ U) {s : Option (List Str)} (h : CanS U s) : CanS U (elems s) := by
  cases s with
  | none => exact fun l q => nomatch q
  | some l =>
    intro l' e
    cases e
    refine ⟨srt_canon _, fun k hk => ?_⟩
    obtain ⟨z, hz, e⟩ := List.mem_filterMap.mp (mem_canon.mp hk)
    exact hU z ((h l rfl).2 z hz) k e
theorem leE {s t : Option (List Str)} (h : leS s t) : leS (elems s) (elems t) := by
  cases t with
  | none => cases s <;> trivial
  | some y =>
    cases s with
    | none => exact h.elim
    | some x =>
      intro k hk
      obtain ⟨z, hz, e⟩ := List.mem_filterMap.mp (mem_canon.mp hk)
      exact mem_canon.mpr (List.mem_filterMap.mpr ⟨z, h z hz, e⟩)
theorem leG {a b : Row} (h : leR a b) (s : Nat) : leS (a.getD s none) (b.getD s none) := by
  rw [List.getD_eq_getElem?_getD, List.getD_eq_getElem?_getD]
  cases e : a[s]? with
  | none =>
    have : b[s]? = none := by
      rw [List.getElem?_eq_none_iff] at e ⊢
      rw [← leR_len h]
      exact e
    rw [this]
    trivial
  | some x =>
    obtain ⟨t, e2, le⟩ := leR_get h e
    rw [e2]
    exact le
theorem made_can (hU : ∀ z ∈ U, ∀ y, elem z = some y → y ∈ U) {row : Row} (h : CanR U m row) : ∀ i, Wf U m i → CanS U (made row i)
  | .new _ _, w => can1 w.2
  | .array _ _ _, w => can1 w.2
  | .null _, _ => can0
  | .move _ s, _ => canG h s
  | .get .., w => can1 w.2.2
  | .call .., w => can1 w.2.2
  | .ask .., w => can1 w.2.2
  | .cast .., w => can1 w.2.2
  | .load _ s _, _ => canE hU (canG h s)
  | .put .., _ => fun l q => nomatch q
  | .store .., _ => fun l q => nomatch q
  | .jump _, _ => fun l q => nomatch q
  | .ifnull .., _ => fun l q => nomatch q
  | .ifis .., _ => fun l q => nomatch q
  | .choose _, _ => fun l q => nomatch q
  | .tell _, _ => fun l q => nomatch q
  | .ret _, _ => fun l q => nomatch q
theorem made_le {a b : Row} (h : leR a b) : ∀ i, leS (made a i) (made b i)
  | .move _ s => leG h s
  | .load _ s _ => leE (leG h s)
  | .new _ _ => leS_refl _
  | .array _ _ _ => leS_refl _
  | .null _ => leS_refl _
  | .get .. => leS_refl _
  | .call .. => leS_refl _
  | .ask .. => leS_refl _
  | .cast .. => leS_refl _
  | .put .. => leS_refl _
  | .store .. => leS_refl _
  | .jump _ => leS_refl _
  | .ifnull .. => leS_refl _
  | .ifis .. => leS_refl _
  | .choose _ => leS_refl _
  | .tell _ => leS_refl _
  | .ret _ => leS_refl _
theorem lead_can (hU : ∀ z ∈ U, ∀ y, elem z = some y → y ∈ U) {row : Row} (h : CanR U m row) (x : Nat) (i : Ins) (w : Wf U m i) : ∀ p ∈ lead x row i, CanR U m p.2 := by
  have hm := made_can hU h i w
  have one : ∀ {a : Nat} {r : Row}, CanR U m r → ∀ p ∈ [(a, r)], CanR U m p.2 := fun hr p hp => by rw [List.mem_singleton.mp hp]; exact hr
  have two : ∀ {a c : Nat} {r s : Row}, CanR U m r → CanR U m s → ∀ p ∈ [(a, r), (c, s)], CanR U m p.2 := fun hr hs p hp => by
    simp only [List.mem_cons, List.not_mem_nil, or_false] at hp
    rcases hp with rfl | rfl
    · exact hr
    · exact hs
  cases i with
  | ret r => exact fun p hp => nomatch hp
  | jump t => exact one h
  | choose t => exact two h h
  | ifnull r t => exact two h (h.set can0 r)
  | ifis r c t => exact two h (h.set (can1 w.2) r)
  | put r s c f t => exact one h
  | store r s k => exact one h
  | tell r => exact one h
  | new r c => exact one (h.set hm r)
  | array r c k => exact one (h.set hm r)
  | null r => exact one (h.set hm r)
  | move r s => exact one (h.set hm r)
  | get r s c f t => exact one (h.set hm r)
  | call r s c f ks t as => exact one (h.set hm r)
  | ask r s c f ks t as => exact one (h.set hm r)
  | cast r s c => exact one (h.set hm r)
  | load r s k => exact one (h.set hm r)
theorem lead_le {a b : Row} (h : leR a b) (x : Nat) (i : Ins) : ∀ p ∈ lead x a i, ∃ p' ∈ lead x b i, p'.1 = p.1 ∧ leR p.2 p'.2 := by
  have hm := made_le h i
  have one : ∀ {y : Nat} {r s : Row}, leR r s → ∀ p ∈ [(y, r)], ∃ p' ∈ [(y, s)], p'.1 = p.1 ∧ leR p.2 p'.2 := fun {y r s} hr p hp => by
    rw [List.mem_singleton.mp hp]
    exact ⟨(y, s), List.mem_singleton.mpr rfl, rfl, hr⟩
  have two : ∀ {y z : Nat} {r s r' s' : Row}, leR r r' → leR s s' → ∀ p ∈ [(y, r), (z, s)], ∃ p' ∈ [(y, r'), (z, s')], p'.1 = p.1 ∧ leR p.2 p'.2 := fun {y z r s r' s'} hr hs p hp => by
    simp only [List.mem_cons, List.not_mem_nil, or_false] at hp
    rcases hp with rfl | rfl
    · exact ⟨(y, r'), List.mem_cons_self, rfl, hr⟩
    · exact ⟨(z, s'), List.mem_cons_of_mem _ (List.mem_singleton.mpr rfl), rfl, hs⟩
  cases i with
  | ret r => exact fun p hp => nomatch hp
  | jump t => exact one h
  | choose t => exact two h h
  | ifnull r t => exact two h (leR_set h (leS_refl _) r)
  | ifis r c t => exact two h (leR_set h (leS_refl _) r)
  | put r s c f t => exact one h
  | store r s k => exact one h
  | tell r => exact one h
  | new r c => exact one (leR_set h hm r)
  | array r c k => exact one (leR_set h hm r)
  | null r => exact one (leR_set h hm r)
  | move r s => exact one (leR_set h hm r)
  | get r s c f t => exact one (leR_set h hm r)
  | call r s c f ks t as => exact one (leR_set h hm r)
  | ask r s c f ks t as => exact one (leR_set h hm r)
  | cast r s c => exact one (leR_set h hm r)
  | load r s k => exact one (leR_set h hm r)
theorem leads_mono (hU : ∀ z ∈ U, ∀ y, elem z = some y → y ∈ U) {is : List Ins} (hw : ∀ i ∈ is, Wf U m i) : Mono U m is.length (leads is) where
  can := fun {x r} hx hr p hp => by
    unfold leads at hp
    rw [List.getElem?_eq_getElem hx] at hp
    exact lead_can hU hr x _ (hw _ (List.getElem_mem hx)) p hp
  mono := fun {x r r'} hx hr hr' h p hp => by
    unfold leads at hp ⊢
    rw [List.getElem?_eq_getElem hx] at hp ⊢
    exact lead_le h x _ p hp
end
end SL
set_option Elab.async false
set_option linter.all false
set_option maxRecDepth 10000
set_option maxHeartbeats 1000000
/-! rows and tables as data: tuples (the package's), lists (the law's) -/
namespace SL
open PySem PySem.Spec TX EX2
def setT : Option (List Str) → PyData
  | none => .none
  | some l => .tuple (l.map .str)
def rowT (r : Row) : PyData := .tuple (r.map setT)
def orT : Option Row → PyData
  | none => .none
  | some r => rowT r
def setL : Option (List Str) → PyData
  | none => .none
  | some l => .list (l.map .str)
def rowL (r : Row) : PyData := .list (r.map setL)
def orL : Option Row → PyData
  | none => .none
  | some r => rowL r
theorem eqv_map {α : Type} [DecidableEq α] (f : α → PyData) (h : ∀ x y, PyData.eqv (f x) (f y) = decide (x = y)) : ∀ l m : List α, PyData.eqvAll (l.map f) (m.map f) = decide (l = m)
  | [], [] => by simp [PyData.eqvAll]
  | [], _ :: _ => by simp [PyData.eqvAll]
  | _ :: _, [] => by simp [PyData.eqvAll]
  | x :: l, y :: m => by
    simp only [List.map_cons, PyData.eqvAll, h x y, eqv_map f h l m]
    by_cases e : x = y <;> by_cases e2 : l = m <;> simp [e, e2]
theorem eqv_str (x y : Str) : PyData.eqv (.str x) (.str y) = decide (x = y) := by
  simp only [PyData.eqv]
  by_cases e : x = y
  · subst e; simp
  · first
      | simp [e]
      | (rw [decide_eq_false e]; exact beq_eq_false_iff_ne.mpr fun h => e (TX.str_ext h))
theorem eqv_setT : ∀ a b, PyData.eqv (setT a) (setT b) = decide (a = b)
  | none, none => by simp [setT, PyData.eqv]
  | none, some _ => by simp [setT, PyData.eqv]
  | some _, none => by simp [setT, PyData.eqv]
  | some l, some m => by
    simp only [setT, PyData.eqv, eqv_map _ eqv_str l m]
    simp
theorem eqv_setL : ∀ a b, PyData.eqv (setL a) (setL b) = decide (a = b)
  | none, none => by simp [setL, PyData.eqv]
  | none, some _ => by simp [setL, PyData.eqv]
  | some _, none => by simp [setL, PyData.eqv]
  | some l, some m => by
    simp only [setL, PyData.eqv, eqv_map _ eqv_str l m]
    simp
theorem eqv_orT : ∀ a b, PyData.eqv (orT a) (orT b) = decide (a = b)
  | none, none => by simp [orT, PyData.eqv]
  | none, some _ => by simp [orT, rowT, PyData.eqv]
  | some _, none => by simp [orT, rowT, PyData.eqv]
  | some l, some m => by
    simp only [orT, rowT, PyData.eqv, eqv_map _ eqv_setT l m]
    simp
theorem eqv_orL : ∀ a b, PyData.eqv (orL a) (orL b) = decide (a = b)
  | none, none => by simp [orL, PyData.eqv]
  | none, some _ => by simp [orL, rowL, PyData.eqv]
  | some _, none => by simp [orL, rowL, PyData.eqv]
  | some l, some m => by
    simp only [orL, rowL, PyData.eqv, eqv_map _ eqv_setL l m]
    simp
theorem eqv_tabT (a b : Tab) : PyData.eqv (.tuple (a.map orT)) (.tuple (b.map orT)) = decide (a = b) := by
  simp only [PyData.eqv, eqv_map _ eqv_orT a b]
theorem canLay_map {α : Type} (f : α → PyData) : ∀ l : List α, (∀ x ∈ l, (f x).canLay0 = true) → PyData.canLayAll0 (l.map f) = true
  | [], _ => rfl
  | x :: l, h => by
    show ((f x).canLay0 && PyData.canLayAll0 (l.map f)) = true
    rw [h x List.mem_cons_self, canLay_map f l fun y hy => h y (List.mem_cons_of_mem _ hy)]
    rfl
theorem depth_map {α : Type} (f : α → PyData) (n : Nat) : ∀ l : List α, (∀ x ∈ l, (f x).depth ≤ n) → PyData.depthAll (l.map f) ≤ n
  | [], _ => Nat.zero_le _
  | x :: l, h => by
    have h1 := h x List.mem_cons_self
    have h2 := depth_map f n l fun y hy => h y (List.mem_cons_of_mem _ hy)
    simp only [List.map_cons, PyData.depthAll]
    omega
/-- texts that can be laid -/
def OkU (U : List Str) : Prop := ∀ z ∈ U, PyData.strOk z = true ∧ z.length ≤ 1000
section
variable {U : List Str} (hU : OkU U)
include hU
theorem lay_set (f : List PyData → PyData) (hf : ∀ l, (f l).canLay0 = PyData.canLayAll0 l) {l : List Str} (h : ∀ k ∈ l, k ∈ U) : (f (l.map .str)).canLay0 = true := by
  rw [hf]
  exact canLay_map _ l fun x hx => (hU x (h x hx)).1
end
theorem dep_str (l : List Str) : PyData.depthAll (l.map .str) ≤ 0 := depth_map _ 0 l fun x _ => by simp [PyData.depth]
theorem dep_setT (s : Option (List Str)) : (setT s).depth ≤ 1 := by
  cases s with
  | none => simp [setT, PyData.depth]
  | some l => have := dep_str l; simp only [setT, PyData.depth]; omega
theorem dep_setL (s : Option (List Str)) : (setL s).depth ≤ 1 := by
  cases s with
  | none => simp [setL, PyData.depth]
  | some l => have := dep_str l; simp only [setL, PyData.depth]; omega
theorem dep_orT (o : Option Row) : (orT o).depth ≤ 2 := by
  cases o with
  | none => simp [orT, PyData.depth]
  | some r => have := depth_map setT 1 r fun x _ => dep_setT x; simp only [orT, rowT, PyData.depth]; omega
theorem dep_orL (o : Option Row) : (orL o).depth ≤ 2 := by
  cases o with
  | none => simp [orL, PyData.depth]
  | some r => have := depth_map setL 1 r fun x _ => dep_setL x; simp only [orL, rowL, PyData.depth]; omega
/-- sets of texts of U, sorted or not -/
def Over (U : List Str) (s : Option (List Str)) : Prop := ∀ l, s = some l → ∀ k ∈ l, k ∈ U
theorem CanS.over {U s} (h : CanS U s) : Over U s := fun l e => (h l e).2
section
variable {U : List Str} (hU : OkU U)
include hU
theorem lay_setT {s : Option (List Str)} (h : Over U s) : (setT s).canLay0 = true := by
  cases s with
  | none => rfl
  | some l => exact lay_set hU .tuple (fun _ => rfl) (h l rfl)
theorem lay_setL {s : Option (List Str)} (h : Over U s) : (setL s).canLay0 = true := by
  cases s with
  | none => rfl
  | some l => exact lay_set hU .list (fun _ => rfl) (h l rfl)
theorem lay_orT {o : Option Row} (h : ∀ r, o = some r → ∀ s ∈ r, Over U s) : (orT o).canLay0 = true := by
  cases o with
  | none => rfl
  | some r => exact canLay_map setT r fun s hs => lay_setT hU (h r rfl s hs)
theorem lay_orL {o : Option Row} (h : ∀ r, o = some r → ∀ s ∈ r, Over U s) : (orL o).canLay0 = true := by
  cases o with
  | none => rfl
  | some r => exact canLay_map setL r fun s hs => lay_setL hU (h r rfl s hs)
theorem shaped_orT {o : Option Row} (h : ∀ r, o = some r → ∀ s ∈ r, Over U s) : SeqAt.shaped (orT o) = true := by
  unfold SeqAt.shaped
  have := dep_orT o
  rw [lay_orT hU h, decide_eq_true (by omega)]
  rfl
theorem shaped_orL {o : Option Row} (h : ∀ r, o = some r → ∀ s ∈ r, Over U s) : SeqAt.shaped (orL o) = true := by
  unfold SeqAt.shaped
  have := dep_orL o
  rw [lay_orL hU h, decide_eq_true (by omega)]
  rfl
theorem shaped_tabT {T : Tab} (h : ∀ r, some r ∈ T → ∀ s ∈ r, Over U s) : SeqAt.shaped (.tuple (T.map orT)) = true := by
  unfold SeqAt.shaped
  have h1 : (PyData.tuple (T.map orT)).canLay0 = true := canLay_map orT T fun o ho => lay_orT hU fun r e => h r (e ▸ ho)
  have h2 := depth_map orT 2 T fun o _ => dep_orT o
  have h3 : (PyData.tuple (T.map orT)).depth ≤ 3 := by simp only [PyData.depth]; omega
  rw [h1, decide_eq_true (by omega)]
  rfl
end
/-! ### tuples hold no lists -/
theorem noL_map {α : Type} (f : α → PyData) (h : ∀ x, noL (f x) = true) (l : List α) : noLs (l.map f) = true := noLs_of fun d hd => by
  obtain ⟨x, _, rfl⟩ := List.mem_map.mp hd
  exact h x
theorem noL_setT (s : Option (List Str)) : noL (setT s) = true := by
  cases s with
  | none => rfl
  | some l => exact noL_map _ (fun _ => rfl) l
theorem noL_rowT (r : Row) : noL (rowT r) = true := noL_map setT noL_setT r
theorem noL_orT (o : Option Row) : noL (orT o) = true := by
  cases o with
  | none => rfl
  | some r => exact noL_rowT r
def leadT (p : Nat × Row) : PyData := .tuple [dN p.1, rowT p.2]
theorem noL_leadT (p : Nat × Row) : noL (leadT p) = true := by
  simp [leadT, noL, noLs, dN, noL_rowT]
end SL
set_option Elab.async false
set_option linter.all false
set_option maxRecDepth 100000
set_option maxHeartbeats 0
namespace K07
open PySem PySem.Spec PyProof.Rows L2 EX2 TX
open SL (setT rowT orT setL rowL orL jS jR CanS CanR)
abbrev selem : Stmt := top 9
abbrev sbegin : Stmt := top 25
abbrev sjs : Stmt := top 26
abbrev sjr : Stmt := top 27
abbrev swith : Stmt := top 28
abbrev selems : Stmt := top 29
abbrev smadeS : Stmt := top 30
abbrev sleads : Stmt := top 31
abbrev sleast : Stmt := top 32
structure SetDefs (K : PySem.W.Frag) (mg : Str → Option Value) : Prop where
  element_of : ∃ f fd, mg "element_of" = some (.ref f) ∧ FnP K "element_of" selem f fd
  begin_row : ∃ f fd, mg "begin_row" = some (.ref f) ∧ FnP K "begin_row" sbegin f fd
  joined_sets : ∃ f fd, mg "joined_sets" = some (.ref f) ∧ FnP K "joined_sets" sjs f fd
  joined_rows : ∃ f fd, mg "joined_rows" = some (.ref f) ∧ FnP K "joined_rows" sjr f fd
  with_set : ∃ f fd, mg "with_set" = some (.ref f) ∧ FnP K "with_set" swith f fd
  elements_in : ∃ f fd, mg "elements_in" = some (.ref f) ∧ FnP K "elements_in" selems f fd
  set_made : ∃ f fd, mg "set_made" = some (.ref f) ∧ FnP K "set_made" smadeS f fd
  leads : ∃ f fd, mg "leads" = some (.ref f) ∧ FnP K "leads" sleads f fd
  least_rows : ∃ f fd, mg "least_rows" = some (.ref f) ∧ FnP K "least_rows" sleast f fd
theorem boot_set : bootBuiltins "set" = some (.type "set") := by kernel_rfl
theorem boot_sorted : bootBuiltins "sorted" = some (.builtin "sorted") := by kernel_rfl
def vO : Option Str → V
  | none => .non
  | some z => .str z
def spElem : Sp := fun vs H Q _ => ∃ z : Str, vs = [.str z] ∧ z.length ≤ 1000 ∧ Q (vO (SL.elem z)) H
def spJS : Sp := fun vs H Q _ => ∃ (x y : V) (a b : Option (List Str)) (U : List Str), vs = [x, y] ∧ Dq H x (setT a) ∧ Dq H y (setT b) ∧ CanS U a ∧ CanS U b ∧ U.length < 64 ∧ ∀ v H', Evl.Ex H H' → Dq H' v (setT (jS a b)) → Q v H'
theorem isN_non {A B : Prop} (h : A) : if decide (V.non = V.non) = true then A else B := by rw [if_pos (decide_eq_true rfl)]; exact h
theorem isN_ref {a : Addr} {A B : Prop} (h : B) : if decide (V.ref a = V.non) = true then A else B := by rw [if_neg]; exact h; simp
theorem isN_str {a : Str} {A B : Prop} (h : B) : if decide (V.str a = V.non) = true then A else B := by rw [if_neg]; exact h; simp
theorem strsV {H : Hp} : ∀ {xs : List V} {l : List Str}, DqAll H xs (l.map .str) → xs = l.map V.str
  | [], [], _ => rfl
  | x :: xs, z :: l, .cons h t => by rw [h.strI, strsV t]; rfl
theorem strsD (H : Hp) : ∀ l : List Str, DqAll H (l.map V.str) (l.map .str)
  | [] => .nil
  | z :: l => .cons (.str z) (strsD H l)
theorem setT_some {H : Hp} {x : V} {l : List Str} (h : Dq H x (setT (some l))) : ∃ a, x = .ref a ∧ H a = some (.tup (l.map V.str)) := by
  obtain ⟨a, xs, rfl, ha, hall⟩ := Dq.tupI (show Dq H x (.tuple (l.map .str)) from h)
  rw [strsV hall] at ha
  exact ⟨a, rfl, ha⟩
theorem setL_some {H : Hp} {x : V} {l : List Str} (h : Dq H x (setL (some l))) : ∃ a, x = .ref a ∧ H a = some (.lst (l.map V.str)) := by
  obtain ⟨a, xs, rfl, ha, hall⟩ := Dq.lstI (show Dq H x (.list (l.map .str)) from h)
  rw [strsV hall] at ha
  exact ⟨a, rfl, ha⟩
theorem setT_new {H : Hp} {p : Addr} (l : List Str) : Dq (upd H p (.tup (l.map V.str))) (.ref p) (setT (some l)) := .tup upd_same (strsD _ l)
theorem can_len {U : List Str} {l : List Str} (h : CanS U (some l)) : l.length ≤ U.length := SL.nodup_len l U (h l rfl).1.nodup (h l rfl).2
theorem few_line {n : Nat} (h : n < 64) : n + 1 < scanBound := by unfold scanBound; omega
section
variable {P : Program} {w : World} {K : PySem.W.Frag} {mg : Str → Option Value} {base : Heap} {f : Addr} {fd : FuncData}
theorem scelem : FnScope nVal ["value"] (defScope selem) := ⟨rfl, rfl, rfl, by decide +kernel, rfl, by decide +kernel, by decide +kernel⟩
theorem ok_elem (F : FnP K "element_of" selem f fd) (T : Txt K mg) : FnOk P w K mg base CX0 1 f fd ["value"] spElem := by
  refine F.ok scelem (fun vs H Q E h => ?_) (fun cdv A outer s H vs Q E hr h => ?_)
  · obtain ⟨z, rfl, _⟩ := h
    rfl
  · obtain ⟨z, rfl, hz, hQ⟩ := h
    refine ⟨_, PSs.nox (pss_one (ps_ret (pe_ifExp (pt_val (pe_m1 PySem.F.slot_str_endswith PySem.F.type_str_endswith mt_endswith (pv 0) pe_str)) (pe_slice sl_str (pv 0) po_none (po_some (pe_un un_neg pe_int))) pe_non))), ?_⟩
    refine ⟨_, rfl, ⟨_, rfl⟩, _, brk, rfl, rfl, _, rfl, ?_⟩
    have e : SL.elem z = if SL.eb z = true then some (SL.c2 z) else none := rfl
    refine ite2 (fun h => ?_) (fun h => ?_)
    · rw [e, if_pos (show SL.eb z = true from h)] at hQ
      exact ⟨_, rfl, _, rfl, _, rfl, z, rfl, le_line hz, hQ⟩
    · rw [e, if_neg (show ¬ SL.eb z = true from h)] at hQ
      exact hQ
abbrev njs : List Str := ["one", "other"]
theorem scjs : FnScope njs ["one", "other"] (defScope sjs) := ⟨rfl, rfl, rfl, by decide +kernel, rfl, by decide +kernel, by decide +kernel⟩
theorem ok_js (F : FnP K "joined_sets" sjs f fd) (T : Txt K mg) : FnOk P w K mg base CX0 1 f fd ["one", "other"] spJS := by
  refine F.ok scjs (fun vs H Q E h => ?_) (fun cdv A outer s H vs Q E hr h => ?_)
  · obtain ⟨x, y, a, b, U, rfl, _⟩ := h
    rfl
  · obtain ⟨x, y, a, b, U, rfl, hx, hy, ca, cb, hU, hQ⟩ := h
    refine ⟨_, PSs.nox (pss_one (ps_ret (pe_ifExp (PW.pt (pw_or (pt_cmpR op_isN (pv 0) pe_non (nomark _)) (pw_or1 (pt_cmpR op_isN (pv 1) pe_non (nomark _))))) pe_non
      (pe_callTy call_tuple_of rfl T.tup boot_tuple (pa_cons (pe_callB (cr_sortedSS rfl) rfl T.sorted boot_sorted (pa_cons (pe_op op_orS (pe_callTy (cr_setS rfl) rfl T.set boot_set (pa_cons (pv 0) pa_nil)) (pe_callTy (cr_setS rfl) rfl T.set boot_set (pa_cons (pv 1) pa_nil))) pa_nil)) pa_nil))))), ?_⟩
    refine ⟨_, rfl, rfl, _, rfl, ?_⟩
    cases a with
    | none =>
      cases hx
      exact isN_non (iteT (hQ _ _ (Evl.Ex.refl _) .non))
    | some l =>
      obtain ⟨pa, rfl, ha⟩ := setT_some hx
      refine isN_ref ⟨_, rfl, rfl, ?_⟩
      cases b with
      | none =>
        cases hy
        exact ⟨_, rfl, isN_non (hQ _ _ (Evl.Ex.refl _) .non)⟩
      | some m =>
        obtain ⟨pb, rfl, hb⟩ := setT_some hy
        have la := can_len ca
        have lb := can_len cb
        have cl : canon l = l := canon_of (ca l rfl).1
        have cm : canon m = m := canon_of (cb m rfl).1
        have lj := can_len (SL.jS_can ca cb)
        refine ⟨_, rfl, isN_ref ⟨_, rfl, pa, l, rfl, .inr (SqT.of ha), few_line (by omega), fun p1 h1 => ?_⟩⟩
        have e1 := Evl.Ex.new (o := SetSO w p1 l) h1
        refine ⟨_, rfl, pb, m, rfl, .inr (SqT.of (e1 _ _ hb)), few_line (by omega), fun p2 h2 => ?_⟩
        have e2 := Evl.Ex.new (o := SetSO w p2 m) h2
        refine ⟨p1, p2, l, m, rfl, rfl, e2 _ _ upd_same, upd_same, by rw [cl, cm]; omega, fun p3 h3 => ?_⟩
        have e3 := Evl.Ex.new (o := SetSO w p3 (l ++ m)) h3
        refine ⟨p3, l ++ m, rfl, upd_same, Nat.lt_of_le_of_lt lj hU, fun p4 h4 => ?_⟩
        have e4 := Evl.Ex.new (o := .lst ((canon (l ++ m)).map V.str)) h4
        refine ⟨p4, _, rfl, .inl ⟨SqL.of upd_same, fun p5 h5 => ?_⟩⟩
        exact hQ _ _ ((((e1.trans e2).trans e3).trans e4).trans (Evl.Ex.new h5)) (setT_new _)
end
end K07
set_option Elab.async false
set_option linter.all false
set_option maxRecDepth 100000
set_option maxHeartbeats 4000000
/-! comprehensions whose elements are data, the heap growing; zip of two tuples walked -/
namespace EX2
open PySem PySem.Spec PyProof.Rows L2
theorem walk_zipT {K : PySem.W.Frag} {a b : Addr} {xs ys : List V} {n : Nat} (hn : n = min xs.length ys.length) : Walk (RZ.ItzT K a b) n (fun H => SqT K H a xs ∧ SqT K H b ys) (YPair (fun i => xs[i]?) (fun i => ys[i]?)) := by
  subst hn
  refine ⟨fun i _ hi q => ?_, fun _ q => ⟨xs, ys, q.1, q.2, by omega⟩, fun i H v H' _ q y => ?_⟩
  · have h1 : i < xs.length := by omega
    have h2 : i < ys.length := by omega
    exact ⟨xs, ys, xs[i], ys[i], q.1, q.2, by simp [h1], by simp [h2]⟩
  · obtain ⟨T, x, y, h1, h2, h3, h4, h5⟩ := y
    exact ⟨T, x, y, h1, h2, h3, h4 xs q.1, h5 ys q.2⟩
section
variable {H : Hp} {p : Addr} {l : List V}
mutual
theorem dq_rmL' (hp : H p = some (.lst l)) : ∀ {x : V} {d : PyData}, Dq H x d → noL d = true → Dq (rm p H) x d
  | _, _, .non, _ => .non
  | _, _, .bl b, _ => .bl b
  | _, _, .int i, _ => .int i
  | _, _, .str x, _ => .str x
  | _, _, .lst q h, n => by cases n
  | _, _, .tup (a := a) q h, n => .tup (by rw [rm_ne (ne_of q hp (fun z => nomatch z))]; exact q) (dqAll_rmL' hp h n)
  | _, _, .dk q h, n => by cases n
theorem dqAll_rmL' (hp : H p = some (.lst l)) : ∀ {xs : List V} {ds : List PyData}, DqAll H xs ds → noLs ds = true → DqAll (rm p H) xs ds
  | _, _, .nil, _ => .nil
  | _, _, .cons h t, n => by
    simp only [noLs, Bool.and_eq_true] at n
    exact .cons (dq_rmL' hp h n.1) (dqAll_rmL' hp t n.2)
end
end
/-- data apart from what is new -/
theorem Dq.rmN {H : Hp} {D : Addr} {x : V} {d : PyData} (h : Dq H x d) (hD : H D = none) {H' : Hp} (e : Evl.Ex H H') : Dq (rm D H') x d := by
  refine Dq.ext (fun a o q => ?_) h
  have n : a ≠ D := by rintro rfl; rw [hD] at q; cases q
  rw [rm_ne n]
  exact e _ _ q
theorem DqAll.rmN {H : Hp} {D : Addr} {x : List V} {d : List PyData} (h : DqAll H x d) (hD : H D = none) {H' : Hp} (e : Evl.Ex H H') : DqAll (rm D H') x d := by
  refine DqAll.ext (fun a o q => ?_) h
  have n : a ≠ D := by rintro rfl; rw [hD] at q; cases q
  rw [rm_ne n]
  exact e _ _ q
section
variable {J : It} {n : Nat} {G : Hp → Prop} {Y : Nat → Hp → V → Hp → Prop}
/-- a comprehension whose j-th element is the data dat j -/
theorem lc_rm (w : Walk J n G Y) {g : TG} {te : TE} {vs : List Nat} {σ : L2.St} {H1 : Hp} {D : Addr} {Qd : Hp → Prop} (hD : H1 D = none) (hG : ∀ H', Evl.Ex H1 H' → G H') (dat : Nat → PyData) (hz : n ≤ 100000)
    (hY : ∀ j H2 x H3, j < n → Evl.Ex H1 H2 → Y j H2 x H3 → Evl.Ex H2 H3)
    (hs : ∀ j x H2 H3 acc, j < n → Evl.Ex H1 H2 → Evl.Ex H1 H3 → H3 D = some (.lst acc) → Y j H2 x H3 → ∀ Qt : V → Hp → Prop, (∀ y H4, Evl.Ex H3 H4 → Dq (rm D H4) y (dat j) → Qt y H4) → g x (wipe σ vs) H3 fun σ2 H4 => wipe σ2 vs = wipe σ vs ∧ te σ2 H4 Qt)
    (hd : ∀ H' xs, Evl.Ex H1 H' → H' D = some (.lst xs) → DqAll (rm D H') xs ((List.range n).map dat) → Qd H') :
    ∃ W : Nat → Nat → Hp → Prop, (∃ m, W 0 m (upd H1 D (.lst []))) ∧ ∀ i m H, W i m H →
      (J.stop i H ∧ Qd H) ∨ (J.go i H ∧ ∃ Nx : Hp → Prop, (∀ H', Nx H' → ∃ m', m' < m ∧ W (i + 1) m' H') ∧ ∀ x H', J.yld i H x H' → g x (wipe σ vs) H' fun σ2 H2 => wipe σ2 vs = wipe σ vs ∧ tYes σ2 H2 fun b H3 =>
        if b = true then te σ2 H3 fun y H4 => ∃ acc, H4 D = some (.lst acc) ∧ acc.length < sizeLine ∧ Nx (upd H4 D (.lst (acc ++ [y]))) else Nx H3) := by
  refine lc_it w (fun j H' => Evl.Ex H1 H' ∧ ∃ xs, H' D = some (.lst xs) ∧ DqAll (rm D H') xs ((List.range j).map dat)) ⟨Evl.Ex.new hD, [], upd_same, .nil⟩ (fun i H hi p => hG H p.1) ?_ (fun H ⟨e, xs, a, b⟩ => hd H xs e a b)
  rintro j x H2 H3 hj ⟨e, xs, hd2, hall⟩ hy
  have e3 := hY j H2 x H3 hj e hy
  have q := hs j x H2 H3 xs hj e (e.trans e3) (e3 _ _ hd2) hy (fun y H4 => ∃ acc, H4 D = some (.lst acc) ∧ acc.length < sizeLine ∧ (Evl.Ex H1 (upd H4 D (.lst (acc ++ [y]))) ∧ ∃ xs, (upd H4 D (.lst (acc ++ [y]))) D = some (.lst xs) ∧ DqAll (rm D (upd H4 D (.lst (acc ++ [y])))) xs ((List.range (j + 1)).map dat))) ?_
  · simp only [tYes, if_true]
    exact q
  · intro y H4 e4 hy4
    refine ⟨xs, e4 _ _ (e3 _ _ hd2), ?_, ((e.trans e3).trans e4).mut hD, xs ++ [y], upd_same, ?_⟩
    · rw [DqAll.length hall, List.length_map, List.length_range]
      exact Evl.sz_lt (by omega)
    · rw [rm_same, List.range_succ, List.map_append]
      exact DqAll.app (DqAll.ext (ex_rm (e3.trans e4)) hall) (.cons hy4 .nil)
end
theorem range_map_get {α β : Type} (xs : List α) (f : α → β) (g : Nat → β) (h : ∀ i x, xs[i]? = some x → g i = f x) : (List.range xs.length).map g = xs.map f := map_range_get xs f g h
/-- the j-th of mapped data -/
theorem getD_map {α : Type} (l : List α) (f : α → PyData) {j : Nat} {x : α} (h : l[j]? = some x) : (l.map f).getD j .none = f x := by
  rw [List.getD_eq_getElem?_getD, List.getElem?_map, h]
  rfl
theorem range_getD {ds : List PyData} : (List.range ds.length).map (fun j => ds.getD j .none) = ds := by
  have := map_range_get ds id (fun j => ds.getD j .none) fun i x e => by rw [List.getD_eq_getElem?_getD, e]; rfl
  rw [this, List.map_id]
theorem DqAll.mapGet {H : Hp} {α : Type} {f : α → PyData} {l : List α} {xs : List V} (h : DqAll H xs (l.map f)) {j : Nat} {x : V} (e : xs[j]? = some x) : ∃ a, l[j]? = some a ∧ Dq H x (f a) := by
  obtain ⟨d, hd, q⟩ := h.get e
  rw [List.getElem?_map] at hd
  cases z : l[j]? with
  | none => rw [z] at hd; cases hd
  | some a =>
    rw [z] at hd
    have : f a = d := Option.some.inj hd
    subst this
    exact ⟨a, rfl, q⟩
theorem DqAll.mapGetD {H : Hp} {α : Type} {f : α → PyData} {l : List α} {xs : List V} (h : DqAll H xs (l.map f)) {j : Nat} {a : α} (e : l[j]? = some a) : ∃ x, xs[j]? = some x ∧ Dq H x (f a) :=
  h.getD (by rw [List.getElem?_map, e]; rfl)
end EX2
set_option Elab.async false
set_option linter.all false
set_option maxRecDepth 100000
set_option maxHeartbeats 0
namespace K07
open PySem PySem.Spec PyProof.Rows L2 EX2 TX
open SL (setT rowT orT setL rowL orL jS jR CanS CanR newR)
abbrev Rw : Type := SL.Row
def spJR : Sp := fun vs H Q _ => ∃ (x y : V) (o : Option Rw) (r : Rw) (U : List Str) (m : Nat), vs = [x, y] ∧ Dq H x (orT o) ∧ Dq H y (rowT r) ∧ (∀ a, o = some a → CanR U m a) ∧ CanR U m r ∧ U.length < 64 ∧ m ≤ 1000 ∧ ∀ v H', Evl.Ex H H' → Dq H' v (rowT (newR o r)) → Q v H'
/-- a row with another set -/
def spWith : Sp := fun vs H Q _ => ∃ (x y : V) (r : Rw) (i : Nat) (s : Option (List Str)), vs = [x, .int i, y] ∧ Dq H x (rowT r) ∧ Dq H y (setT s) ∧ i < r.length ∧ r.length ≤ 1000 ∧ ∀ v H', Evl.Ex H H' → Dq H' v (rowT (r.set i s)) → Q v H'
theorem jR_get : ∀ {a b : Rw} {j : Nat} {x y : Option (List Str)}, a[j]? = some x → b[j]? = some y → (jR a b)[j]? = some (jS x y)
  | [], _, _, _, _, h, _ => by simp at h
  | _ :: _, [], _, _, _, _, h => by simp at h
  | a :: r, b :: s, 0, x, y, h, g => by simp at h g; subst h g; rfl
  | a :: r, b :: s, j + 1, x, y, h, g => by simp only [List.getElem?_cons_succ] at h g; exact jR_get (a := r) (b := s) h g
theorem jR_len {a b : Rw} (h : a.length = b.length) : (jR a b).length = a.length := by
  unfold jR
  rw [List.length_zipWith, h, Nat.min_self]
theorem catA_ok {K : PySem.W.Frag} {H : Hp} {a b : Addr} {xs ys : List V} {Q : VK} (ha : H a = some (.tup xs)) (hb : H b = some (.tup ys)) (hz : xs.length + ys.length ≤ 100000) (hQ : ∀ c H', Evl.Ex H H' → H' c = some (.tup (xs ++ ys)) → Q (.ref c) H') : rCatA K (.ref a) (.ref b) H Q := by
  refine ⟨a, b, xs, ys, rfl, rfl, SqT.of ha, SqT.of hb, Nat.le_trans hz (by rw [sizeLine_eq]; decide), fun e => ?_, fun _ e => ?_, fun _ _ p hp => ?_⟩
  · subst e; exact hQ b H (Evl.Ex.refl _) hb
  · subst e; exact hQ a H (Evl.Ex.refl _) (by rw [List.append_nil]; exact ha)
  · exact hQ p _ (Evl.Ex.new hp) upd_same
theorem slA_ok {K : PySem.W.Frag} {H : Hp} {a : Addr} {xs : List V} {lo hi : Option Int} {Q : VK} (ha : H a = some (.tup xs)) (hQ : ∀ c H', Evl.Ex H H' → H' c = some (.tup (cutV xs lo hi)) → Q (.ref c) H') : rSlA K (.ref a) lo hi H Q := by
  refine ⟨a, xs, rfl, SqT.of ha, fun e => ?_, fun _ p hp => hQ p _ (Evl.Ex.new hp) upd_same⟩
  refine hQ a H (Evl.Ex.refl _) ?_
  unfold cutV
  rw [e.1, e.2, Nat.sub_zero, List.drop_zero, List.take_length]
  exact ha
theorem cut_take (xs : List V) {i : Nat} (h : i ≤ xs.length) : cutV xs none (some (i : Int)) = xs.take i := by
  unfold cutV
  rw [HT.sIx_none, HT.sIx_nat, Nat.min_eq_left h, Nat.sub_zero, List.drop_zero]
theorem cut_drop (xs : List V) {i : Nat} (h : i ≤ xs.length) : cutV xs (some (i : Int)) none = xs.drop i := by
  unfold cutV
  rw [HT.sIx_none, HT.sIx_nat, Nat.min_eq_left h]
  exact List.take_of_length_le (by rw [List.length_drop]; omega)
theorem notN_non {A B : Prop} (h : B) : if (!decide (V.non = V.non)) = true then A else B := by rw [if_neg]; exact h; simp
theorem notN_str {a : Str} {A B : Prop} (h : A) : if (!decide (V.str a = V.non)) = true then A else B := by rw [if_pos]; exact h; simp
theorem notN_ref {a : Addr} {A B : Prop} (h : A) : if (!decide (V.ref a = V.non)) = true then A else B := by rw [if_pos]; exact h; simp
theorem fm_one {α β : Type} (f : α → Option β) (z : α) : (some z).toList.filterMap f = (f z).toList := by
  show [z].filterMap f = _
  cases h : f z with
  | none => rw [List.filterMap_cons_none h]; rfl
  | some y => rw [List.filterMap_cons_some h]; rfl
theorem set_cut {α : Type} : ∀ (xs : List α) (i : Nat) (y : α), i < xs.length → xs.take i ++ [y] ++ xs.drop (i + 1) = xs.set i y
  | [], i, y, h => absurd h (Nat.not_lt_zero _)
  | x :: xs, 0, y, _ => rfl
  | x :: xs, i + 1, y, h => by
    have := set_cut xs i y (Nat.lt_of_succ_lt_succ h)
    simp only [List.take_succ_cons, List.cons_append, List.drop_succ_cons, List.set_cons_succ]
    rw [this]
section
variable {P : Program} {w : World} {K : PySem.W.Frag} {mg : Str → Option Value} {base : Heap} {f : Addr} {fd : FuncData}
abbrev njr : List Str := ["one", "other", "first", "second"]
theorem scjr : FnScope njr ["one", "other"] (defScope sjr) := ⟨rfl, rfl, rfl, by decide +kernel, rfl, by decide +kernel, by decide +kernel⟩
theorem ok_jr (F : FnP K "joined_rows" sjr f fd) (T : Txt K mg) (D : SetDefs K mg) : FnOk P w K mg base CX0 2 f fd ["one", "other"] spJR := by
  obtain ⟨fJ, fdJ, gJ, FJ⟩ := D.joined_sets
  have GJ : FnOk P w K mg base CX0 1 fJ fdJ ["one", "other"] spJS := ok_js FJ T
  have bJ : Binds K fdJ ["one", "other"] [] := FJ.bindsN fun _ _ _ _ _ _ us hl => match us, hl with | [_, _], _ => rfl
  refine F.ok scjr (fun vs H Q E h => ?_) (fun cdv A outer s H vs Q E hr h => ?_)
  · obtain ⟨x, y, o, r, U, m, rfl, _⟩ := h
    rfl
  · obtain ⟨x, y, o, r, U, m, rfl, hx, hy, co, cr, hU, hm, hQ⟩ := h
    refine ⟨_, PSs.nox (pss_cons (ps_if (PW.pt (pw_or (pt_cmpR op_isN (pv 0) pe_non (nomark _)) (pw_or1 (pt_cmpR op_isN (pv 1) pe_non (nomark _)))))
        (pss_one (ps_ret (pe_ifExp (pt_cmpR op_isN (pv 1) pe_non (nomark _)) (pv 0) (pv 1))))
        pss_nil)
      (pss_one (ps_ret (pe_callTy call_tuple_of rfl T.tup boot_tuple (pa_cons (pe_lc (own := [("first", 2), ("second", 3)]) (g := gTup K 2 (gCons (gName 2) (gCons (gName 3) gNil))) (tt := tYes) rfl scjr.nd (RZ.pi_zipA rfl T.zip (pa_cons (pv 0) (pa_cons (pv 1) pa_nil))) (blkOk_by (N := njr) (sc := defScope sjr) (by decide +kernel)) (fun _ _ _ _ _ => (pg_tup rfl (pgs_cons (pg_name (i := 2) scjr.nd rfl (Or.inl rfl)) (pgs_cons (pg_name (i := 3) scjr.nd rfl (Or.inl rfl)) pgs_nil)))) (fun _ _ _ _ _ => pts_nil) (fun _ _ _ _ _ => (pe_call GJ (hr.mono (by decide)) rfl gJ FJ.kp bJ .nil pass0 (pa_cons (pv 2) (pa_cons (pv 3) pa_nil))))) pa_nil))))), ?_⟩
    obtain ⟨b, ys, rfl, hb, hall⟩ := Dq.tupI (show Dq H y (.tuple (r.map setT)) from hy)
    cases o with
    | none =>
      cases hx
      refine ⟨_, rfl, rfl, _, rfl, isN_non (iteT ⟨_, rfl, rfl, _, rfl, isN_ref ⟨_, rfl, ?_⟩⟩)⟩
      exact hQ _ _ (Evl.Ex.refl _) hy
    | some a =>
      obtain ⟨c, xs, rfl, hc, hall2⟩ := Dq.tupI (show Dq H x (.tuple (a.map setT)) from hx)
      refine ⟨_, rfl, rfl, _, rfl, isN_ref ⟨_, rfl, rfl, ⟨_, rfl, isN_ref ?_⟩⟩⟩
      have ca := co a rfl
      have lx : xs.length = m := by rw [DqAll.length hall2, List.length_map]; exact ca.1
      have ly : ys.length = m := by rw [DqAll.length hall, List.length_map]; exact cr.1
      refine ⟨_, rfl, _, rfl, c, b, xs, ys, rfl, .inr ⟨SqT.of hc, SqT.of hb, fun D1 hD1 => ?_⟩⟩
      refine lc_rm (walk_zipT (xs := xs) (ys := ys) (n := m) (by rw [lx, ly, Nat.min_self])) hD1 (fun H' e => ⟨SqT.of (e _ _ hc), SqT.of (e _ _ hb)⟩) (fun j => ((jR a r).map setT).getD j .none) (by omega)
        (fun j H2 x H3 _ _ y => by obtain ⟨T, a, b, _, h, rfl, _⟩ := y; exact Evl.Ex.new h) ?_ ?_
      · rintro j x H2 H3 acc hj e2 e3 hD3 ⟨T1, x1, y1, rfl, hT, rfl, hx1, hy1⟩ Qt hQt
        obtain ⟨s1, hs1, d1⟩ := hall2.mapGet hx1
        obtain ⟨s2, hs2, d2⟩ := hall.mapGet hy1
        refine ⟨T1, _, rfl, SqT.of upd_same, rfl, _, _, rfl, _, _, rfl, rfl, rfl, _, rfl, _, rfl, _, _, s1, s2, U, rfl, d1.ext e3, d2.ext e3, ca.2 s1 (List.mem_of_getElem? hs1), cr.2 s2 (List.mem_of_getElem? hs2), hU, fun v H4 e4 hv => ?_⟩
        refine hQt v H4 e4 ?_
        rw [getD_map _ _ (jR_get hs1 hs2)]
        exact dq_rmL' (e4 _ _ hD3) hv (SL.noL_setT _)
      · intro H1 zs e1 hD1s hz
        have hl : ((jR a r).map setT).length = m := by rw [List.length_map, jR_len (ca.1.trans cr.1.symm)]; exact ca.1
        rw [← hl, EX2.range_getD] at hz
        refine ⟨D1, zs, rfl, .inl ⟨SqL.of hD1s, fun p hp => ?_⟩⟩
        exact hQ _ _ (e1.trans (Evl.Ex.new hp)) (.tup upd_same (DqAll.ext (Evl.Ex.trans rm_ex (Evl.Ex.new hp)) hz))
abbrev nwith : List Str := ["row", "drawer", "found"]
theorem scwith : FnScope nwith ["row", "drawer", "found"] (defScope swith) := ⟨rfl, rfl, rfl, by decide +kernel, rfl, by decide +kernel, by decide +kernel⟩
theorem ok_with (F : FnP K "with_set" swith f fd) : FnOk P w K mg base CX0 1 f fd ["row", "drawer", "found"] spWith := by
  refine F.ok scwith (fun vs H Q E h => ?_) (fun cdv A outer s H vs Q E hr h => ?_)
  · obtain ⟨x, y, r, i, s, rfl, _⟩ := h
    rfl
  · obtain ⟨x, y, r, i, s, rfl, hx, hy, hi, hm, hQ⟩ := h
    refine ⟨_, PSs.nox (pss_one (ps_ret (pe_op op_catA (pe_op op_catA (pe_slice sl_tupA (pv 0) po_none (po_some (pv 1))) (pe_tup (pa_cons (pv 2) pa_nil))) (pe_slice sl_tupA (pv 0) (po_some (pe_op op_add (pv 1) pe_int)) po_none)))), ?_⟩
    obtain ⟨b, ys, rfl, hb, hall⟩ := Dq.tupI (show Dq H x (.tuple (r.map setT)) from hx)
    have ly : ys.length = r.length := by rw [DqAll.length hall, List.length_map]
    have hz : ys.length ≤ 1000 := by rw [ly]; exact hm
    refine ⟨_, rfl, ⟨_, rfl, _, rfl, ?_⟩⟩
    refine slA_ok hb fun c1 H1 e1 h1 => ?_
    rw [cut_take ys (by omega)] at h1
    refine ⟨_, rfl, le_line (by simp), fun p2 hp2 => ?_⟩
    have e2 := Evl.Ex.new (o := .tup [y]) hp2
    refine catA_ok (e2 _ _ h1) upd_same (by rw [List.length_take]; simp; omega) fun c3 H3 e3 h3 => ?_
    have e03 := (e1.trans e2).trans e3
    refine ⟨_, rfl, ⟨_, rfl, _, _, rfl, rfl, _, rfl, ?_⟩⟩
    dsimp only [tNoPart]
    refine slA_ok (e03 _ _ hb) fun c4 H4 e4 h4 => ?_
    have ec : cutV ys (some ((i : Int) + 1)) none = ys.drop (i + 1) := cut_drop ys (i := i + 1) (by omega)
    rw [ec] at h4
    refine catA_ok (e4 _ _ h3) h4 (by rw [List.length_append, List.length_take, List.length_drop]; simp; omega) fun c5 H5 e5 h5 => ?_
    rw [set_cut ys i y (by omega)] at h5
    have e05 := (e03.trans e4).trans e5
    refine hQ _ _ e05 (.tup h5 ?_)
    have := DqAll.setA (DqAll.ext e05 hall) (Dq.ext e05 hy) i
    rw [← List.map_set] at this
    exact this
def spElems : Sp := fun vs H Q _ => ∃ (x : V) (a : Option (List Str)) (U : List Str), vs = [x] ∧ Dq H x (setT a) ∧ CanS U a ∧ SL.OkU U ∧ (∀ z ∈ U, ∀ y, SL.elem z = some y → y ∈ U) ∧ U.length < 64 ∧ ∀ v H', Evl.Ex H H' → Dq H' v (setT (SL.elems a)) → Q v H'
abbrev nelems : List Str := ["found", "kind"]
theorem scelems : FnScope nelems ["found"] (defScope selems) := ⟨rfl, rfl, rfl, by decide +kernel, rfl, by decide +kernel, by decide +kernel⟩
theorem ok_elems (F : FnP K "elements_in" selems f fd) (T : Txt K mg) (D : SetDefs K mg) : FnOk P w K mg base CX0 2 f fd ["found"] spElems := by
  obtain ⟨fE, fdE, gE, FE⟩ := D.element_of
  have GE : FnOk P w K mg base CX0 1 fE fdE ["value"] spElem := ok_elem FE T
  have bE : Binds K fdE ["value"] [] := FE.bindsN fun _ _ _ _ _ _ us hl => match us, hl with | [_], _ => rfl
  refine F.ok scelems (fun vs H Q E h => ?_) (fun cdv A outer s H vs Q E hr h => ?_)
  · obtain ⟨x, a, U, rfl, _⟩ := h
    rfl
  · obtain ⟨x, a, U, rfl, hx, ca, oU, hel, hU, hQ⟩ := h
    refine ⟨_, PSs.nox (pss_cons (ps_if (pt_cmpR op_isN (pv 0) pe_non (nomark _))
        (pss_one (ps_ret pe_non))
        pss_nil)
      (pss_one (ps_ret (pe_callTy call_tuple_of rfl T.tup boot_tuple (pa_cons (pe_callB (cr_sortedSS rfl) rfl T.sorted boot_sorted (pa_cons
        (pe_scS (own := [("kind", 1)]) (g := gName 1) rfl scelems.nd (pi_tup (pv 0)) (blkOk_by (N := nelems) (sc := defScope selems) (by decide +kernel)) (fun _ _ _ _ _ => (pg_name (i := 1) scelems.nd rfl (Or.inl rfl)))
          (fun _ _ _ _ _ => (pts_one (pt_cmpR op_notN (pe_call GE (hr.mono (by decide)) rfl gE FE.kp bE .nil pass0 (pa_cons (pv 1) pa_nil)) pe_non (nomark _))))
          (fun _ _ _ _ _ => (pe_call GE (hr.mono (by decide)) rfl gE FE.kp bE .nil pass0 (pa_cons (pv 1) pa_nil)))) pa_nil)) pa_nil))))), ?_⟩
    refine ⟨_, rfl, rfl, _, rfl, ?_⟩
    cases a with
    | none =>
      cases hx
      exact isN_non (hQ _ _ (Evl.Ex.refl _) .non)
    | some l =>
      obtain ⟨pa, rfl, ha⟩ := setT_some hx
      have la := can_len ca
      refine isN_ref ⟨_, rfl, pa, rfl, ⟨_, SqT.of ha⟩, fun D1 hD1 => ?_⟩
      have sub : ∀ i, ∀ k ∈ canon ((l.take i).filterMap SL.elem).reverse, k ∈ U := fun i k hk => by
        obtain ⟨z, hz, e⟩ := List.mem_filterMap.mp (List.mem_reverse.mp (mem_canon.mp hk))
        exact hel z ((ca l rfl).2 z (List.mem_of_mem_take hz)) k e
      have lenc : ∀ i, (canon ((l.take i).filterMap SL.elem).reverse).length < 64 := fun i => Nat.lt_of_le_of_lt (SL.nodup_len _ U (srt_canon _).nodup (sub i)) hU
      refine scS_tup (xs := l.map V.str) (fun i H' => Evl.Ex H H' ∧ H' D1 = some (SetSO w D1 ((l.take i).filterMap SL.elem).reverse)) ⟨Evl.Ex.new hD1, upd_same⟩ (fun i H' _ q => SqT.of (q.1 _ _ ha)) ?_ ?_
      · rintro i x H2 hx2 ⟨e2, hD2⟩
        rw [List.getElem?_map] at hx2
        obtain ⟨z, hz, rfl⟩ : ∃ z, l[i]? = some z ∧ x = .str z := by
          cases q : l[i]? with
          | none => rw [q] at hx2; cases hx2
          | some z => rw [q] at hx2; exact ⟨z, rfl, (Option.some.inj hx2).symm⟩
        have hzU := (ca l rfl).2 z (List.mem_of_getElem? hz)
        have tk : (l.take (i + 1)).filterMap SL.elem = (l.take i).filterMap SL.elem ++ (SL.elem z).toList := by
          rw [List.take_succ, hz, List.filterMap_append]
          exact congrArg _ (fm_one _ _)
        refine ⟨rfl, _, rfl, z, rfl, (oU z hzU).2, ?_⟩
        cases he : SL.elem z with
        | none =>
          refine ⟨rfl, _, rfl, ?_⟩
          refine notN_non ⟨e2, ?_⟩
          rw [tk, he]
          simpa using hD2
        | some y =>
          refine ⟨rfl, _, rfl, ?_⟩
          refine notN_str ⟨_, rfl, z, rfl, (oU z hzU).2, ?_⟩
          rw [he]
          refine ⟨y, _, rfl, hD2, Nat.lt_trans (Nat.succ_lt_succ (lenc i)) (by decide), e2.mut hD1, ?_⟩
          rw [upd_same, tk, he]
          simp
          rfl
      · rintro H2 ⟨e2, hD2⟩
        rw [List.length_map, List.take_length] at hD2
        have l0 := lenc l.length
        rw [List.take_length] at l0
        refine ⟨D1, _, rfl, hD2, l0, fun p hp => ?_⟩
        refine ⟨p, _, rfl, .inl ⟨SqL.of upd_same, fun p2 hp2 => ?_⟩⟩
        have e := setT_new (H := upd H2 p (.lst ((canon (l.filterMap SL.elem).reverse).map V.str))) (p := p2) (canon (l.filterMap SL.elem).reverse)
        rw [canon_congr (b := l.filterMap SL.elem) (fun k => List.mem_reverse)] at e hp2 ⊢
        exact hQ _ _ ((e2.trans (Evl.Ex.new hp)).trans (Evl.Ex.new hp2)) e
end
end K07
set_option Elab.async false
set_option linter.all false
set_option maxRecDepth 10000
set_option maxHeartbeats 1000000
namespace SL
open PySem PySem.Spec TX EX2 L2
theorem iv_new {H : Hp} {x : V} {c : Str} {r : Nat} (h : Dq H x (Ins.new r c).data) : ∃ (a : Addr), x = .ref a ∧ H a = some (.tup [.str "new", .int (r : Nat), .str c]) := by
  obtain ⟨a, ys, rfl, ha, hall⟩ := Dq.tupI (show Dq H x (.tuple [.str "new", dN r, .str c]) from h)
  cases hall with
  | cons h0 t0 =>
    cases t0 with
    | cons h1 t1 =>
      cases t1 with
      | cons h2 t2 =>
        cases t2
        rw [h0.strI, h1.intI, h2.strI] at ha
        exact ⟨a, rfl, ha⟩
theorem iv_array {H : Hp} {x : V} {c : Str} {k : Int} {r : Nat} (h : Dq H x (Ins.array r c k).data) : ∃ (a : Addr), x = .ref a ∧ H a = some (.tup [.str "array", .int (r : Nat), .str c, .int k]) := by
  obtain ⟨a, ys, rfl, ha, hall⟩ := Dq.tupI (show Dq H x (.tuple [.str "array", dN r, .str c, .int k]) from h)
  cases hall with
  | cons h0 t0 =>
    cases t0 with
    | cons h1 t1 =>
      cases t1 with
      | cons h2 t2 =>
        cases t2 with
        | cons h3 t3 =>
          cases t3
          rw [h0.strI, h1.intI, h2.strI, h3.intI] at ha
          exact ⟨a, rfl, ha⟩
theorem iv_null {H : Hp} {x : V} {r : Nat} (h : Dq H x (Ins.null r).data) : ∃ (a : Addr), x = .ref a ∧ H a = some (.tup [.str "null", .int (r : Nat)]) := by
  obtain ⟨a, ys, rfl, ha, hall⟩ := Dq.tupI (show Dq H x (.tuple [.str "null", dN r]) from h)
  cases hall with
  | cons h0 t0 =>
    cases t0 with
    | cons h1 t1 =>
      cases t1
      rw [h0.strI, h1.intI] at ha
      exact ⟨a, rfl, ha⟩
theorem iv_move {H : Hp} {x : V} {r : Nat} {s : Nat} (h : Dq H x (Ins.move r s).data) : ∃ (a : Addr), x = .ref a ∧ H a = some (.tup [.str "move", .int (r : Nat), .int (s : Nat)]) := by
  obtain ⟨a, ys, rfl, ha, hall⟩ := Dq.tupI (show Dq H x (.tuple [.str "move", dN r, dN s]) from h)
  cases hall with
  | cons h0 t0 =>
    cases t0 with
    | cons h1 t1 =>
      cases t1 with
      | cons h2 t2 =>
        cases t2
        rw [h0.strI, h1.intI, h2.intI] at ha
        exact ⟨a, rfl, ha⟩
theorem iv_get {H : Hp} {x : V} {c : Str} {f : Str} {r : Nat} {s : Nat} {t : Str} (h : Dq H x (Ins.get r s c f t).data) : ∃ (a : Addr), x = .ref a ∧ H a = some (.tup [.str "get", .int (r : Nat), .int (s : Nat), .str c, .str f, .str t]) := by
  obtain ⟨a, ys, rfl, ha, hall⟩ := Dq.tupI (show Dq H x (.tuple [.str "get", dN r, dN s, .str c, .str f, .str t]) from h)
  cases hall with
  | cons h0 t0 =>
    cases t0 with
    | cons h1 t1 =>
      cases t1 with
      | cons h2 t2 =>
        cases t2 with
        | cons h3 t3 =>
          cases t3 with
          | cons h4 t4 =>
            cases t4 with
            | cons h5 t5 =>
              cases t5
              rw [h0.strI, h1.intI, h2.intI, h3.strI, h4.strI, h5.strI] at ha
              exact ⟨a, rfl, ha⟩
theorem iv_put {H : Hp} {x : V} {c : Str} {f : Str} {r : Nat} {s : Nat} {t : Str} (h : Dq H x (Ins.put r s c f t).data) : ∃ (a : Addr), x = .ref a ∧ H a = some (.tup [.str "put", .int (r : Nat), .str c, .str f, .str t, .int (s : Nat)]) := by
  obtain ⟨a, ys, rfl, ha, hall⟩ := Dq.tupI (show Dq H x (.tuple [.str "put", dN r, .str c, .str f, .str t, dN s]) from h)
  cases hall with
  | cons h0 t0 =>
    cases t0 with
    | cons h1 t1 =>
      cases t1 with
      | cons h2 t2 =>
        cases t2 with
        | cons h3 t3 =>
          cases t3 with
          | cons h4 t4 =>
            cases t4 with
            | cons h5 t5 =>
              cases t5
              rw [h0.strI, h1.intI, h2.strI, h3.strI, h4.strI, h5.intI] at ha
              exact ⟨a, rfl, ha⟩
theorem iv_call {H : Hp} {x : V} {as : List PyData} {c : Str} {f : Str} {ks : List PyData} {r : Nat} {s : Nat} {t : Str} (h : Dq H x (Ins.call r s c f ks t as).data) : ∃ (a : Addr) (v_ks : V) (v_as : V), x = .ref a ∧ H a = some (.tup [.str "call", .int (r : Nat), .int (s : Nat), .str c, .str f, v_ks, .str t, v_as]) ∧ Dq H v_ks (.tuple ks) ∧ Dq H v_as (.tuple as) := by
  obtain ⟨a, ys, rfl, ha, hall⟩ := Dq.tupI (show Dq H x (.tuple [.str "call", dN r, dN s, .str c, .str f, .tuple ks, .str t, .tuple as]) from h)
  cases hall with
  | cons h0 t0 =>
    cases t0 with
    | cons h1 t1 =>
      cases t1 with
      | cons h2 t2 =>
        cases t2 with
        | cons h3 t3 =>
          cases t3 with
          | cons h4 t4 =>
            cases t4 with
            | cons h5 t5 =>
              cases t5 with
              | cons h6 t6 =>
                cases t6 with
                | cons h7 t7 =>
                  cases t7
                  rw [h0.strI, h1.intI, h2.intI, h3.strI, h4.strI, h6.strI] at ha
                  exact ⟨a, _, _, rfl, ha, h5, h7⟩
theorem iv_ask {H : Hp} {x : V} {as : List PyData} {c : Str} {f : Str} {ks : List PyData} {r : Nat} {s : Nat} {t : Str} (h : Dq H x (Ins.ask r s c f ks t as).data) : ∃ (a : Addr) (v_ks : V) (v_as : V), x = .ref a ∧ H a = some (.tup [.str "ask", .int (r : Nat), .int (s : Nat), .str c, .str f, v_ks, .str t, v_as]) ∧ Dq H v_ks (.tuple ks) ∧ Dq H v_as (.tuple as) := by
  obtain ⟨a, ys, rfl, ha, hall⟩ := Dq.tupI (show Dq H x (.tuple [.str "ask", dN r, dN s, .str c, .str f, .tuple ks, .str t, .tuple as]) from h)
  cases hall with
  | cons h0 t0 =>
    cases t0 with
    | cons h1 t1 =>
      cases t1 with
      | cons h2 t2 =>
        cases t2 with
        | cons h3 t3 =>
          cases t3 with
          | cons h4 t4 =>
            cases t4 with
            | cons h5 t5 =>
              cases t5 with
              | cons h6 t6 =>
                cases t6 with
                | cons h7 t7 =>
                  cases t7
                  rw [h0.strI, h1.intI, h2.intI, h3.strI, h4.strI, h6.strI] at ha
                  exact ⟨a, _, _, rfl, ha, h5, h7⟩
theorem iv_cast {H : Hp} {x : V} {c : Str} {r : Nat} {s : Nat} (h : Dq H x (Ins.cast r s c).data) : ∃ (a : Addr), x = .ref a ∧ H a = some (.tup [.str "cast", .int (r : Nat), .int (s : Nat), .str c]) := by
  obtain ⟨a, ys, rfl, ha, hall⟩ := Dq.tupI (show Dq H x (.tuple [.str "cast", dN r, dN s, .str c]) from h)
  cases hall with
  | cons h0 t0 =>
    cases t0 with
    | cons h1 t1 =>
      cases t1 with
      | cons h2 t2 =>
        cases t2 with
        | cons h3 t3 =>
          cases t3
          rw [h0.strI, h1.intI, h2.intI, h3.strI] at ha
          exact ⟨a, rfl, ha⟩
theorem iv_load {H : Hp} {x : V} {k : Int} {r : Nat} {s : Nat} (h : Dq H x (Ins.load r s k).data) : ∃ (a : Addr), x = .ref a ∧ H a = some (.tup [.str "load", .int (r : Nat), .int (s : Nat), .int k]) := by
  obtain ⟨a, ys, rfl, ha, hall⟩ := Dq.tupI (show Dq H x (.tuple [.str "load", dN r, dN s, .int k]) from h)
  cases hall with
  | cons h0 t0 =>
    cases t0 with
    | cons h1 t1 =>
      cases t1 with
      | cons h2 t2 =>
        cases t2 with
        | cons h3 t3 =>
          cases t3
          rw [h0.strI, h1.intI, h2.intI, h3.intI] at ha
          exact ⟨a, rfl, ha⟩
theorem iv_store {H : Hp} {x : V} {k : Int} {r : Nat} {s : Nat} (h : Dq H x (Ins.store r s k).data) : ∃ (a : Addr), x = .ref a ∧ H a = some (.tup [.str "store", .int (r : Nat), .int k, .int (s : Nat)]) := by
  obtain ⟨a, ys, rfl, ha, hall⟩ := Dq.tupI (show Dq H x (.tuple [.str "store", dN r, .int k, dN s]) from h)
  cases hall with
  | cons h0 t0 =>
    cases t0 with
    | cons h1 t1 =>
      cases t1 with
      | cons h2 t2 =>
        cases t2 with
        | cons h3 t3 =>
          cases t3
          rw [h0.strI, h1.intI, h2.intI, h3.intI] at ha
          exact ⟨a, rfl, ha⟩
theorem iv_jump {H : Hp} {x : V} {t : Nat} (h : Dq H x (Ins.jump t).data) : ∃ (a : Addr), x = .ref a ∧ H a = some (.tup [.str "jump", .int (t : Nat)]) := by
  obtain ⟨a, ys, rfl, ha, hall⟩ := Dq.tupI (show Dq H x (.tuple [.str "jump", dN t]) from h)
  cases hall with
  | cons h0 t0 =>
    cases t0 with
    | cons h1 t1 =>
      cases t1
      rw [h0.strI, h1.intI] at ha
      exact ⟨a, rfl, ha⟩
theorem iv_ifnull {H : Hp} {x : V} {r : Nat} {t : Nat} (h : Dq H x (Ins.ifnull r t).data) : ∃ (a : Addr), x = .ref a ∧ H a = some (.tup [.str "ifnull", .int (r : Nat), .int (t : Nat)]) := by
  obtain ⟨a, ys, rfl, ha, hall⟩ := Dq.tupI (show Dq H x (.tuple [.str "ifnull", dN r, dN t]) from h)
  cases hall with
  | cons h0 t0 =>
    cases t0 with
    | cons h1 t1 =>
      cases t1 with
      | cons h2 t2 =>
        cases t2
        rw [h0.strI, h1.intI, h2.intI] at ha
        exact ⟨a, rfl, ha⟩
theorem iv_ifis {H : Hp} {x : V} {c : Str} {r : Nat} {t : Nat} (h : Dq H x (Ins.ifis r c t).data) : ∃ (a : Addr), x = .ref a ∧ H a = some (.tup [.str "ifis", .int (r : Nat), .str c, .int (t : Nat)]) := by
  obtain ⟨a, ys, rfl, ha, hall⟩ := Dq.tupI (show Dq H x (.tuple [.str "ifis", dN r, .str c, dN t]) from h)
  cases hall with
  | cons h0 t0 =>
    cases t0 with
    | cons h1 t1 =>
      cases t1 with
      | cons h2 t2 =>
        cases t2 with
        | cons h3 t3 =>
          cases t3
          rw [h0.strI, h1.intI, h2.strI, h3.intI] at ha
          exact ⟨a, rfl, ha⟩
theorem iv_choose {H : Hp} {x : V} {t : Nat} (h : Dq H x (Ins.choose t).data) : ∃ (a : Addr), x = .ref a ∧ H a = some (.tup [.str "choose", .int (t : Nat)]) := by
  obtain ⟨a, ys, rfl, ha, hall⟩ := Dq.tupI (show Dq H x (.tuple [.str "choose", dN t]) from h)
  cases hall with
  | cons h0 t0 =>
    cases t0 with
    | cons h1 t1 =>
      cases t1
      rw [h0.strI, h1.intI] at ha
      exact ⟨a, rfl, ha⟩
theorem iv_tell {H : Hp} {x : V} {r : Nat} (h : Dq H x (Ins.tell r).data) : ∃ (a : Addr), x = .ref a ∧ H a = some (.tup [.str "tell", .int (r : Nat)]) := by
  obtain ⟨a, ys, rfl, ha, hall⟩ := Dq.tupI (show Dq H x (.tuple [.str "tell", dN r]) from h)
  cases hall with
  | cons h0 t0 =>
    cases t0 with
    | cons h1 t1 =>
      cases t1
      rw [h0.strI, h1.intI] at ha
      exact ⟨a, rfl, ha⟩
theorem iv_ret {H : Hp} {x : V} {r : Nat} (h : Dq H x (Ins.ret r).data) : ∃ (a : Addr), x = .ref a ∧ H a = some (.tup [.str "return", .int (r : Nat)]) := by
  obtain ⟨a, ys, rfl, ha, hall⟩ := Dq.tupI (show Dq H x (.tuple [.str "return", dN r]) from h)
  cases hall with
  | cons h0 t0 =>
    cases t0 with
    | cons h1 t1 =>
      cases t1
      rw [h0.strI, h1.intI] at ha
      exact ⟨a, rfl, ha⟩
end SL
set_option Elab.async false
set_option linter.all false
set_option maxRecDepth 100000
set_option maxHeartbeats 0
namespace K07
open PySem PySem.Spec PyProof.Rows L2 EX2 TX
open SL (setT rowT orT setL rowL orL jS jR CanS CanR newR Ins Wf dN leadT)
theorem ifT {b : Bool} {A B : Prop} (e : b = true) (h : A) : if b = true then A else B := by rw [if_pos e]; exact h
theorem ifF {b : Bool} {A B : Prop} (e : b = false) (h : B) : if b = true then A else B := by rw [if_neg]; exact h; rw [e]; exact Bool.false_ne_true
/-- an instruction: its word and its parts -/
theorem insI {H : Hp} {x : V} {i : Ins} (h : Dq H x i.data) : ∃ a xs, x = .ref a ∧ H a = some (.tup (.str i.word :: xs)) ∧ DqAll H xs i.rest := by
  obtain ⟨a, ys, rfl, ha, hall⟩ := Dq.tupI (show Dq H x (.tuple (.str i.word :: i.rest)) from h)
  cases hall with
  | cons h t =>
    rw [h.strI] at ha
    exact ⟨a, _, rfl, ha, t⟩
theorem strAppend_length (x y : Str) : (x ++ y).length = x.length + y.length := by
  show (x.cps ++ y.cps).size = _
  rw [Array.size_append]
  rfl
theorem dNI {H : Hp} {x : V} {i : Nat} (h : Dq H x (dN i)) : x = .int i := h.intI
theorem ixT {K : PySem.W.Frag} {H : Hp} {a : Addr} {xs : List V} {j : Nat} {v : V} {Q : VK} (ha : H a = some (.tup xs)) (hv : xs[j]? = some v) (hQ : Q v H) : rIxT K (.ref a) (.int (j : Int)) H Q := ⟨a, xs, _, v, rfl, rfl, SqT.of ha, atI_nat hv, hQ⟩
/-- is a made one of those that set_made answers -/
def IsMade : Ins → Bool
  | .new .. => true | .array .. => true | .null .. => true | .move .. => true | .get .. => true | .call .. => true | .ask .. => true | .cast .. => true | .load .. => true
  | _ => false
def spMS : Sp := fun vs H Q _ => ∃ (x y : V) (i : Ins) (r : Rw) (U : List Str) (m : Nat), vs = [x, y] ∧ Dq H x i.data ∧ Dq H y (rowT r) ∧ CanR U m r ∧ Wf U m i ∧ IsMade i = true ∧ SL.OkU U ∧ (∀ z ∈ U, ∀ y, SL.elem z = some y → y ∈ U) ∧ U.length < 64 ∧
  ∀ v H', Evl.Ex H H' → Dq H' v (setT (SL.made r i)) → Q v H'
section
variable {P : Program} {w : World} {K : PySem.W.Frag} {mg : Str → Option Value} {base : Heap} {f : Addr} {fd : FuncData}
abbrev nms : List Str := ["instruction", "row", "word"]
theorem scms : FnScope nms ["instruction", "row"] (defScope smadeS) := ⟨rfl, rfl, rfl, by decide +kernel, rfl, by decide +kernel, by decide +kernel⟩
theorem ok_ms (F : FnP K "set_made" smadeS f fd) (T : Txt K mg) (D : SetDefs K mg) : FnOk P w K mg base CX0 3 f fd ["instruction", "row"] spMS := by
  obtain ⟨fE, fdE, gE, FE⟩ := D.elements_in
  have GE : FnOk P w K mg base CX0 2 fE fdE ["found"] spElems := ok_elems FE T D
  have bE : Binds K fdE ["found"] [] := FE.bindsN fun _ _ _ _ _ _ us hl => match us, hl with | [_], _ => rfl
  refine F.ok scms (fun vs H Q E h => ?_) (fun cdv A outer s H vs Q E hr h => ?_)
  · obtain ⟨x, y, i, r, U, m, rfl, _⟩ := h
    rfl
  · obtain ⟨x, y, i, r, U, m, rfl, hx, hy, cr, wf, hm, oU, hel, hU, hQ⟩ := h
    refine ⟨_, PSs.nox (pss_cons (ps_set (i := 2) scms.nd rfl (Or.inl rfl) (pe_ix ix_tup (pv 0) pe_int (fun _ _ => rfl)))
      (pss_cons (ps_if (pt_cmpR op_in_seq (pv 2) (pe_tup (pa_cons pe_str (pa_cons pe_str pa_nil))) (by rfl))
        (pss_one (ps_ret (pe_tup (pa_cons (pe_ix ix_tup (pv 0) (pe_un un_neg pe_int) (fun _ _ => rfl)) pa_nil))))
        pss_nil)
      (pss_cons (ps_if (pt_cmpR op_eq (pv 2) pe_str (nomark _))
        (pss_one (ps_ret (pe_tup (pa_cons (pe_op op_add_str (pe_ix ix_tup (pv 0) pe_int (fun _ _ => rfl)) pe_str) pa_nil))))
        pss_nil)
      (pss_cons (ps_if (pt_cmpR op_eq (pv 2) pe_str (nomark _))
        (pss_one (ps_ret (pe_tup pa_nil)))
        pss_nil)
      (pss_cons (ps_if (pt_cmpR op_eq (pv 2) pe_str (nomark _))
        (pss_one (ps_ret (pe_ix ix_tup (pv 1) (pe_ix ix_tup (pv 0) pe_int (fun _ _ => rfl)) (fun _ _ => rfl))))
        pss_nil)
      (pss_cons (ps_if (pt_cmpR op_eq (pv 2) pe_str (nomark _))
        (pss_one (ps_ret (pe_call GE (hr.mono (by decide)) rfl gE FE.kp bE .nil pass0 (pa_cons (pe_ix ix_tup (pv 1) (pe_ix ix_tup (pv 0) pe_int (fun _ _ => rfl)) (fun _ _ => rfl)) pa_nil))))
        pss_nil)
      (pss_one (ps_ret (pe_tup (pa_cons (pe_ix ix_tup (pv 0) (pe_ifExp (pt_cmpR op_eq (pv 2) pe_str (nomark _)) pe_int pe_int) (fun _ _ => rfl)) pa_nil)))))))))), ?_⟩
    obtain ⟨b, ys, rfl, hb, hallY⟩ := Dq.tupI (show Dq H y (.tuple (r.map setT)) from hy)
    have ly : ys.length = m := by rw [DqAll.length hallY, List.length_map]; exact cr.1
    have one : ∀ (z : Str) (H1 : Hp) (p : Addr), H1 p = none → Dq (upd H1 p (.tup [.str z])) (.ref p) (setT (some [z])) := fun z H1 p _ => .tup upd_same (.cons (.str z) .nil)
    have atR : ∀ k, k < m → ∃ v, ys[k]? = some v ∧ Dq H v (setT (r.getD k none)) := fun k hk => by
      have hk' : k < r.length := by rw [cr.1]; exact hk
      obtain ⟨v, h1, h2⟩ := hallY.mapGetD (List.getElem?_eq_getElem hk')
      refine ⟨v, h1, ?_⟩
      rw [List.getD_eq_getElem?_getD, List.getElem?_eq_getElem hk']
      exact h2
    cases i with
    | new d c =>
      obtain ⟨a, rfl, ha⟩ := SL.iv_new hx
      refine ⟨_, rfl, _, _, _, _, rfl, rfl, SqT.of (ha), atI_nat (j := 0) rfl, ?_⟩
      refine ⟨_, rfl, le_line (by simp), fun p1 h1 => ⟨p1, _, rfl, .inr (SqT.of upd_same), rfl, rfl, _, rfl, ifT (by decide +kernel) ?_⟩⟩
      have e1 := Evl.Ex.new (o := .tup [.str "new", .str "cast"]) h1
      refine ⟨_, rfl, _, rfl, ⟨a, _, _, .str c, rfl, rfl, SqT.of (e1 _ _ ha), rfl, ?_⟩⟩
      exact ⟨le_line (by simp), fun p hp => hQ _ _ (e1.trans (Evl.Ex.new hp)) (one c _ _ hp)⟩
    | cast d e c =>
      obtain ⟨a, rfl, ha⟩ := SL.iv_cast hx
      refine ⟨_, rfl, _, _, _, _, rfl, rfl, SqT.of (ha), atI_nat (j := 0) rfl, ?_⟩
      refine ⟨_, rfl, le_line (by simp), fun p1 h1 => ⟨p1, _, rfl, .inr (SqT.of upd_same), rfl, rfl, _, rfl, ifT (by decide +kernel) ?_⟩⟩
      have e1 := Evl.Ex.new (o := .tup [.str "new", .str "cast"]) h1
      refine ⟨_, rfl, _, rfl, ⟨a, _, _, .str c, rfl, rfl, SqT.of (e1 _ _ ha), rfl, ?_⟩⟩
      exact ⟨le_line (by simp), fun p hp => hQ _ _ (e1.trans (Evl.Ex.new hp)) (one c _ _ hp)⟩
    | array d c k =>
      obtain ⟨a, rfl, ha⟩ := SL.iv_array hx
      refine ⟨_, rfl, _, _, _, _, rfl, rfl, SqT.of (ha), atI_nat (j := 0) rfl, ?_⟩
      refine ⟨_, rfl, le_line (by simp), fun p1 h1 => ⟨p1, _, rfl, .inr (SqT.of upd_same), rfl, rfl, _, rfl, ifF (by decide +kernel) ?_⟩⟩
      have e1 := Evl.Ex.new (o := .tup [.str "new", .str "cast"]) h1
      refine ⟨_, rfl, rfl, _, rfl, ifT (by decide +kernel) ?_⟩
      have hz := (oU _ wf.2).2
      refine ⟨_, rfl, _, _, _, _, rfl, rfl, SqT.of (e1 _ _ ha), atI_nat (j := 2) rfl, _, _, rfl, rfl, ?_, ?_⟩
      · exact le_line (by rw [← strAppend_length]; exact hz)
      exact ⟨le_line (by simp), fun p hp => hQ _ _ (e1.trans (Evl.Ex.new hp)) (one _ _ _ hp)⟩
    | null d =>
      obtain ⟨a, rfl, ha⟩ := SL.iv_null hx
      refine ⟨_, rfl, _, _, _, _, rfl, rfl, SqT.of (ha), atI_nat (j := 0) rfl, ?_⟩
      refine ⟨_, rfl, le_line (by simp), fun p1 h1 => ⟨p1, _, rfl, .inr (SqT.of upd_same), rfl, rfl, _, rfl, ifF (by decide +kernel) ?_⟩⟩
      have e1 := Evl.Ex.new (o := .tup [.str "new", .str "cast"]) h1
      refine ⟨_, rfl, rfl, _, rfl, ifF (by decide +kernel) ?_⟩
      refine ⟨_, rfl, rfl, _, rfl, ifT (by decide +kernel) ?_⟩
      exact ⟨le_line (by simp), fun p hp => hQ _ _ (e1.trans (Evl.Ex.new hp)) (.tup upd_same .nil)⟩
    | move d e =>
      obtain ⟨a, rfl, ha⟩ := SL.iv_move hx
      refine ⟨_, rfl, _, _, _, _, rfl, rfl, SqT.of (ha), atI_nat (j := 0) rfl, ?_⟩
      refine ⟨_, rfl, le_line (by simp), fun p1 h1 => ⟨p1, _, rfl, .inr (SqT.of upd_same), rfl, rfl, _, rfl, ifF (by decide +kernel) ?_⟩⟩
      have e1 := Evl.Ex.new (o := .tup [.str "new", .str "cast"]) h1
      refine ⟨_, rfl, rfl, _, rfl, ifF (by decide +kernel) ?_⟩
      refine ⟨_, rfl, rfl, _, rfl, ifF (by decide +kernel) ?_⟩
      refine ⟨_, rfl, rfl, _, rfl, ifT (by decide +kernel) ?_⟩
      obtain ⟨v, hv, hd⟩ := atR e wf.2
      refine ⟨_, rfl, _, rfl, _, _, _, _, rfl, rfl, SqT.of (e1 _ _ ha), atI_nat (j := 2) rfl, _, _, _, v, rfl, rfl, SqT.of (e1 _ _ hb), atI_nat (j := e) hv, ?_⟩
      exact hQ _ _ e1 (hd.ext e1)
    | load d e k =>
      obtain ⟨a, rfl, ha⟩ := SL.iv_load hx
      refine ⟨_, rfl, _, _, _, _, rfl, rfl, SqT.of (ha), atI_nat (j := 0) rfl, ?_⟩
      refine ⟨_, rfl, le_line (by simp), fun p1 h1 => ⟨p1, _, rfl, .inr (SqT.of upd_same), rfl, rfl, _, rfl, ifF (by decide +kernel) ?_⟩⟩
      have e1 := Evl.Ex.new (o := .tup [.str "new", .str "cast"]) h1
      refine ⟨_, rfl, rfl, _, rfl, ifF (by decide +kernel) ?_⟩
      refine ⟨_, rfl, rfl, _, rfl, ifF (by decide +kernel) ?_⟩
      refine ⟨_, rfl, rfl, _, rfl, ifF (by decide +kernel) ?_⟩
      refine ⟨_, rfl, rfl, _, rfl, ifT (by decide +kernel) ?_⟩
      obtain ⟨v, hv, hd⟩ := atR e wf.2
      refine ⟨_, rfl, _, rfl, _, _, _, _, rfl, rfl, SqT.of (e1 _ _ ha), atI_nat (j := 2) rfl, _, _, _, v, rfl, rfl, SqT.of (e1 _ _ hb), atI_nat (j := e) hv, ?_⟩
      exact ⟨v, r.getD e none, U, rfl, hd.ext e1, SL.canG cr e, oU, hel, hU, fun u H2 e2 hu => hQ u H2 (e1.trans e2) hu⟩
    | get d e c f t =>
      obtain ⟨a, rfl, ha⟩ := SL.iv_get hx
      refine ⟨_, rfl, _, _, _, _, rfl, rfl, SqT.of (ha), atI_nat (j := 0) rfl, ?_⟩
      refine ⟨_, rfl, le_line (by simp), fun p1 h1 => ⟨p1, _, rfl, .inr (SqT.of upd_same), rfl, rfl, _, rfl, ifF (by decide +kernel) ?_⟩⟩
      have e1 := Evl.Ex.new (o := .tup [.str "new", .str "cast"]) h1
      refine ⟨_, rfl, rfl, _, rfl, ifF (by decide +kernel) ?_⟩
      refine ⟨_, rfl, rfl, _, rfl, ifF (by decide +kernel) ?_⟩
      refine ⟨_, rfl, rfl, _, rfl, ifF (by decide +kernel) ?_⟩
      refine ⟨_, rfl, rfl, _, rfl, ifF (by decide +kernel) ?_⟩
      refine ⟨_, rfl, _, rfl, rfl, _, rfl, ifT (by decide +kernel) ⟨_, _, _, _, rfl, rfl, SqT.of (e1 _ _ ha), atI_nat (j := 5) rfl, ?_⟩⟩
      exact ⟨le_line (by simp), fun p hp => hQ _ _ (e1.trans (Evl.Ex.new hp)) (one _ _ _ hp)⟩
    | call d e c f ks t as =>
      obtain ⟨a, v5, v7, rfl, ha, _, _⟩ := SL.iv_call hx
      refine ⟨_, rfl, _, _, _, _, rfl, rfl, SqT.of (ha), atI_nat (j := 0) rfl, ?_⟩
      refine ⟨_, rfl, le_line (by simp), fun p1 h1 => ⟨p1, _, rfl, .inr (SqT.of upd_same), rfl, rfl, _, rfl, ifF (by decide +kernel) ?_⟩⟩
      have e1 := Evl.Ex.new (o := .tup [.str "new", .str "cast"]) h1
      refine ⟨_, rfl, rfl, _, rfl, ifF (by decide +kernel) ?_⟩
      refine ⟨_, rfl, rfl, _, rfl, ifF (by decide +kernel) ?_⟩
      refine ⟨_, rfl, rfl, _, rfl, ifF (by decide +kernel) ?_⟩
      refine ⟨_, rfl, rfl, _, rfl, ifF (by decide +kernel) ?_⟩
      refine ⟨_, rfl, _, rfl, rfl, _, rfl, ifF (by decide +kernel) ⟨_, _, _, _, rfl, rfl, SqT.of (e1 _ _ ha), atI_nat (j := 6) rfl, ?_⟩⟩
      exact ⟨le_line (by simp), fun p hp => hQ _ _ (e1.trans (Evl.Ex.new hp)) (one _ _ _ hp)⟩
    | ask d e c f ks t as =>
      obtain ⟨a, v5, v7, rfl, ha, _, _⟩ := SL.iv_ask hx
      refine ⟨_, rfl, _, _, _, _, rfl, rfl, SqT.of (ha), atI_nat (j := 0) rfl, ?_⟩
      refine ⟨_, rfl, le_line (by simp), fun p1 h1 => ⟨p1, _, rfl, .inr (SqT.of upd_same), rfl, rfl, _, rfl, ifF (by decide +kernel) ?_⟩⟩
      have e1 := Evl.Ex.new (o := .tup [.str "new", .str "cast"]) h1
      refine ⟨_, rfl, rfl, _, rfl, ifF (by decide +kernel) ?_⟩
      refine ⟨_, rfl, rfl, _, rfl, ifF (by decide +kernel) ?_⟩
      refine ⟨_, rfl, rfl, _, rfl, ifF (by decide +kernel) ?_⟩
      refine ⟨_, rfl, rfl, _, rfl, ifF (by decide +kernel) ?_⟩
      refine ⟨_, rfl, _, rfl, rfl, _, rfl, ifF (by decide +kernel) ⟨_, _, _, _, rfl, rfl, SqT.of (e1 _ _ ha), atI_nat (j := 6) rfl, ?_⟩⟩
      exact ⟨le_line (by simp), fun p hp => hQ _ _ (e1.trans (Evl.Ex.new hp)) (one _ _ _ hp)⟩
    | put _ _ _ _ _ => cases hm
    | store _ _ _ => cases hm
    | jump _ => cases hm
    | ifnull _ _ => cases hm
    | ifis _ _ _ => cases hm
    | choose _ => cases hm
    | tell _ => cases hm
    | ret _ => cases hm
end
end K07
set_option Elab.async false
set_option linter.all false
set_option maxRecDepth 100000
set_option maxHeartbeats 0
namespace K07
open PySem PySem.Spec PyProof.Rows L2 EX2 TX
open SL (setT rowT orT setL rowL orL jS jR CanS CanR newR Ins Wf dN leadT)
def spLeads : Sp := fun vs H Q _ => ∃ (xc xr : V) (is : List Ins) (x : Nat) (i : Ins) (r : Rw) (U : List Str) (m : Nat), vs = [xc, .int x, xr] ∧ Dq H xc (.tuple (is.map Ins.data)) ∧ is[x]? = some i ∧ Dq H xr (rowT r) ∧ CanR U m r ∧ m ≤ 1000 ∧ Wf U m i ∧ SL.OkU U ∧ (∀ z ∈ U, ∀ y, SL.elem z = some y → y ∈ U) ∧ U.length < 64 ∧
  ∀ L zs H', Evl.Ex H H' → H L = none → H' L = some (.lst zs) → DqAll H' zs ((SL.lead x r i).map leadT) → Q (.ref L) H'
section
variable {P : Program} {w : World} {K : PySem.W.Frag} {mg : Str → Option Value} {base : Heap} {f : Addr} {fd : FuncData}
abbrev nleads : List Str := ["code", "index", "row", "instruction", "word"]
theorem scleads : FnScope nleads ["code", "index", "row"] (defScope sleads) := ⟨rfl, rfl, rfl, by decide +kernel, rfl, by decide +kernel, by decide +kernel⟩
theorem ok_leads (F : FnP K "leads" sleads f fd) (T : Txt K mg) (D : SetDefs K mg) : FnOk P w K mg base CX0 4 f fd ["code", "index", "row"] spLeads := by
  obtain ⟨fW, fdW, gW, FW⟩ := D.with_set
  have GW : FnOk P w K mg base CX0 1 fW fdW ["row", "drawer", "found"] spWith := ok_with FW
  have bW : Binds K fdW ["row", "drawer", "found"] [] := FW.bindsN fun _ _ _ _ _ _ us hl => match us, hl with | [_, _, _], _ => rfl
  obtain ⟨fM, fdM, gM, FM⟩ := D.set_made
  have GM : FnOk P w K mg base CX0 3 fM fdM ["instruction", "row"] spMS := ok_ms FM T D
  have bM : Binds K fdM ["instruction", "row"] [] := FM.bindsN fun _ _ _ _ _ _ us hl => match us, hl with | [_, _], _ => rfl
  refine F.ok scleads (fun vs H Q E h => ?_) (fun cdv A outer s H vs Q E hr h => ?_)
  · obtain ⟨xc, xr, is, x, i, r, U, m, rfl, _⟩ := h
    rfl
  · obtain ⟨xc, xr, is, x, i, r, U, m, rfl, hxc, hi, hxr, cr, hm, wf, oU, hel, hU, hQ⟩ := h
    refine ⟨_, PSs.nox (pss_cons (ps_set (i := 3) scleads.nd rfl (Or.inl rfl) (pe_ix ix_tup (pv 0) (pv 1) (fun _ _ => rfl)))
      (pss_cons (ps_set (i := 4) scleads.nd rfl (Or.inl rfl) (pe_ix ix_tup (pv 3) pe_int (fun _ _ => rfl)))
      (pss_cons (ps_if (pt_cmpR op_eq (pv 4) pe_str (nomark _))
        (pss_one (ps_ret (pe_lst pa_nil)))
        pss_nil)
      (pss_cons (ps_if (pt_cmpR op_eq (pv 4) pe_str (nomark _))
        (pss_one (ps_ret (pe_lst (pa_cons (pe_tup (pa_cons (pe_ix ix_tup (pv 3) pe_int (fun _ _ => rfl)) (pa_cons (pv 2) pa_nil))) pa_nil))))
        pss_nil)
      (pss_cons (ps_if (pt_cmpR op_eq (pv 4) pe_str (nomark _))
        (pss_one (ps_ret (pe_lst (pa_cons (pe_tup (pa_cons (pe_op op_add (pv 1) pe_int) (pa_cons (pv 2) pa_nil))) (pa_cons (pe_tup (pa_cons (pe_ix ix_tup (pv 3) pe_int (fun _ _ => rfl)) (pa_cons (pv 2) pa_nil))) pa_nil)))))
        pss_nil)
      (pss_cons (ps_if (pt_cmpR op_eq (pv 4) pe_str (nomark _))
        (pss_one (ps_ret (pe_lst (pa_cons (pe_tup (pa_cons (pe_op op_add (pv 1) pe_int) (pa_cons (pv 2) pa_nil))) (pa_cons (pe_tup (pa_cons (pe_ix ix_tup (pv 3) pe_int (fun _ _ => rfl)) (pa_cons (pe_call GW (hr.mono (by decide)) rfl gW FW.kp bW .nil pass0 (pa_cons (pv 2) (pa_cons (pe_ix ix_tup (pv 3) pe_int (fun _ _ => rfl)) (pa_cons (pe_tup pa_nil) pa_nil)))) pa_nil))) pa_nil)))))
        pss_nil)
      (pss_cons (ps_if (pt_cmpR op_eq (pv 4) pe_str (nomark _))
        (pss_one (ps_ret (pe_lst (pa_cons (pe_tup (pa_cons (pe_op op_add (pv 1) pe_int) (pa_cons (pv 2) pa_nil))) (pa_cons (pe_tup (pa_cons (pe_ix ix_tup (pv 3) pe_int (fun _ _ => rfl)) (pa_cons (pe_call GW (hr.mono (by decide)) rfl gW FW.kp bW .nil pass0 (pa_cons (pv 2) (pa_cons (pe_ix ix_tup (pv 3) pe_int (fun _ _ => rfl)) (pa_cons (pe_tup (pa_cons (pe_ix ix_tup (pv 3) pe_int (fun _ _ => rfl)) pa_nil)) pa_nil)))) pa_nil))) pa_nil)))))
        pss_nil)
      (pss_cons (ps_if (pt_cmpR op_in_seq (pv 4) (pe_tup (pa_cons pe_str (pa_cons pe_str (pa_cons pe_str pa_nil)))) (by rfl))
        (pss_one (ps_ret (pe_lst (pa_cons (pe_tup (pa_cons (pe_op op_add (pv 1) pe_int) (pa_cons (pv 2) pa_nil))) pa_nil))))
        pss_nil)
      (pss_one (ps_ret (pe_lst (pa_cons (pe_tup (pa_cons (pe_op op_add (pv 1) pe_int) (pa_cons (pe_call GW (hr.mono (by decide)) rfl gW FW.kp bW .nil pass0 (pa_cons (pv 2) (pa_cons (pe_ix ix_tup (pv 3) pe_int (fun _ _ => rfl)) (pa_cons (pe_call GM (hr.mono (by decide)) rfl gM FM.kp bM .nil pass0 (pa_cons (pv 3) (pa_cons (pv 2) pa_nil))) pa_nil)))) pa_nil))) pa_nil)))))))))))), ?_⟩
    obtain ⟨c, cs, rfl, hc, hallC⟩ := hxc.tupI
    obtain ⟨v, hv, hvd⟩ := hallC.mapGetD hi
    have ex1 : ((x : Int) + 1) = ((x + 1 : Nat) : Int) := rfl
    have lead1 : ∀ (H1 : Hp) (t : Nat) (y : V) (s : Rw) (p : Addr), H1 p = none → Dq H1 y (rowT s) → Dq (upd H1 p (.tup [.int (t : Int), y])) (.ref p) (leadT (t, s)) := fun H1 t y s p hp hy => .tup upd_same (.cons (.int _) (.cons (hy.ext (Evl.Ex.new hp)) .nil))
    have fin1 : ∀ (H1 : Hp) (t : Nat) (y : V) (s : Rw), Evl.Ex H H1 → Dq H1 y (rowT s) → SL.lead x r i = [(t, s)] → ∀ p, H1 p = none → ∀ q, (upd H1 p (.tup [.int (t : Int), y])) q = none → Q (.ref q) (upd (upd H1 p (.tup [.int (t : Int), y])) q (.lst [.ref p])) := fun H1 t y s e1 hy hl p hp q hq => by
      have ep := Evl.Ex.new (o := .tup [.int (t : Int), y]) hp
      have eq := Evl.Ex.new (o := .lst [.ref p]) hq
      have nq : H q = none := by
        cases z : H q with
        | none => rfl
        | some o => have := ep _ _ (e1 _ _ z); rw [hq] at this; cases this
      refine hQ q _ _ ((e1.trans ep).trans eq) nq upd_same ?_
      rw [hl]
      exact .cons ((lead1 H1 t y s p hp hy).ext eq) .nil
    have fin2 : ∀ (H1 H2 : Hp) (t u : Nat) (y z : V) (s s' : Rw) (p p' : Addr), Evl.Ex H H1 → H1 p = none → Dq H1 y (rowT s) → Evl.Ex (upd H1 p (.tup [.int (t : Int), y])) H2 → Dq H2 z (rowT s') → SL.lead x r i = [(t, s), (u, s')] → H2 p' = none → ∀ q, (upd H2 p' (.tup [.int (u : Int), z])) q = none →
        Q (.ref q) (upd (upd H2 p' (.tup [.int (u : Int), z])) q (.lst [.ref p, .ref p'])) := fun H1 H2 t u y z s s' p p' e1 hp hy e2 hz hl hp' q hq => by
      have ep := Evl.Ex.new (o := .tup [.int (t : Int), y]) hp
      have ep' := Evl.Ex.new (o := .tup [.int (u : Int), z]) hp'
      have eq := Evl.Ex.new (o := .lst [.ref p, .ref p']) hq
      have e02 := (e1.trans ep).trans e2
      have nq : H q = none := by
        cases z : H q with
        | none => rfl
        | some o => have := ep' _ _ (e02 _ _ z); rw [hq] at this; cases this
      refine hQ q _ _ ((e02.trans ep').trans eq) nq upd_same ?_
      rw [hl]
      exact .cons ((lead1 H1 t y s p hp hy).ext ((e2.trans ep').trans eq)) (.cons ((lead1 H2 u z s' p' hp' hz).ext eq) .nil)
    cases i with
    | ret d =>
      obtain ⟨a, rfl, ha⟩ := SL.iv_ret hvd
      refine ⟨_, rfl, _, rfl, _, _, _, _, rfl, rfl, SqT.of (hc), atI_nat (j := x) hv, ?_⟩
      refine ⟨_, rfl, _, _, _, _, rfl, rfl, SqT.of (ha), atI_nat (j := 0) rfl, ?_⟩
      refine ⟨_, rfl, rfl, _, rfl, ifT (by decide +kernel) ?_⟩
      exact ⟨le_line (by simp), fun q hq => hQ q _ _ (Evl.Ex.new hq) hq upd_same .nil⟩
    | jump t =>
      obtain ⟨a, rfl, ha⟩ := SL.iv_jump hvd
      refine ⟨_, rfl, _, rfl, _, _, _, _, rfl, rfl, SqT.of (hc), atI_nat (j := x) hv, ?_⟩
      refine ⟨_, rfl, _, _, _, _, rfl, rfl, SqT.of (ha), atI_nat (j := 0) rfl, ?_⟩
      refine ⟨_, rfl, rfl, _, rfl, ifF (by decide +kernel) ?_⟩
      refine ⟨_, rfl, rfl, _, rfl, ifT (by decide +kernel) ?_⟩
      refine ⟨_, rfl, _, _, _, _, rfl, rfl, SqT.of (ha), atI_nat (j := 1) rfl, _, rfl, le_line (by simp), fun p hp => ⟨le_line (by simp), fun q hq => fin1 H t xr r (Evl.Ex.refl _) hxr rfl p hp q hq⟩⟩
    | choose t =>
      obtain ⟨a, rfl, ha⟩ := SL.iv_choose hvd
      refine ⟨_, rfl, _, rfl, _, _, _, _, rfl, rfl, SqT.of (hc), atI_nat (j := x) hv, ?_⟩
      refine ⟨_, rfl, _, _, _, _, rfl, rfl, SqT.of (ha), atI_nat (j := 0) rfl, ?_⟩
      refine ⟨_, rfl, rfl, _, rfl, ifF (by decide +kernel) ?_⟩
      refine ⟨_, rfl, rfl, _, rfl, ifF (by decide +kernel) ?_⟩
      refine ⟨_, rfl, rfl, _, rfl, ifT (by decide +kernel) ?_⟩
      refine ⟨_, rfl, _, _, rfl, rfl, _, rfl, le_line (by simp), fun p hp => ?_⟩
      have ep := Evl.Ex.new (o := .tup [.int ((x : Int) + 1), xr]) hp
      refine ⟨_, rfl, _, _, _, _, rfl, rfl, SqT.of (ep _ _ ha), atI_nat (j := 1) rfl, _, rfl, le_line (by simp), fun p' hp' => ⟨le_line (by simp), fun q hq => ?_⟩⟩
      exact fin2 H _ (x + 1) t xr xr r r p p' (Evl.Ex.refl _) hp hxr (Evl.Ex.refl _) (hxr.ext ep) rfl hp' q hq
    | ifnull d t =>
      obtain ⟨a, rfl, ha⟩ := SL.iv_ifnull hvd
      refine ⟨_, rfl, _, rfl, _, _, _, _, rfl, rfl, SqT.of (hc), atI_nat (j := x) hv, ?_⟩
      refine ⟨_, rfl, _, _, _, _, rfl, rfl, SqT.of (ha), atI_nat (j := 0) rfl, ?_⟩
      refine ⟨_, rfl, rfl, _, rfl, ifF (by decide +kernel) ?_⟩
      refine ⟨_, rfl, rfl, _, rfl, ifF (by decide +kernel) ?_⟩
      refine ⟨_, rfl, rfl, _, rfl, ifF (by decide +kernel) ?_⟩
      refine ⟨_, rfl, rfl, _, rfl, ifT (by decide +kernel) ?_⟩
      refine ⟨_, rfl, _, _, rfl, rfl, _, rfl, le_line (by simp), fun p hp => ?_⟩
      have ep := Evl.Ex.new (o := .tup [.int ((x : Int) + 1), xr]) hp
      refine ⟨_, rfl, _, _, _, _, rfl, rfl, SqT.of (ep _ _ ha), atI_nat (j := 2) rfl, _, rfl, _, rfl, _, _, _, _, rfl, rfl, SqT.of (ep _ _ ha), atI_nat (j := 1) rfl, le_line (by simp), fun p2 hp2 => ?_⟩
      have ep2 := Evl.Ex.new (o := .tup []) hp2
      refine ⟨xr, _, r, d, some [], rfl, hxr.ext (ep.trans ep2), .tup upd_same .nil, by rw [cr.1]; exact wf, by rw [cr.1]; exact hm, fun z H3 e3 hz => ?_⟩
      exact ⟨le_line (by simp), fun p' hp' => ⟨le_line (by simp), fun q hq => fin2 H _ (x + 1) t xr z r _ p p' (Evl.Ex.refl _) hp hxr (ep2.trans e3) hz rfl hp' q hq⟩⟩
    | ifis d c' t =>
      obtain ⟨a, rfl, ha⟩ := SL.iv_ifis hvd
      refine ⟨_, rfl, _, rfl, _, _, _, _, rfl, rfl, SqT.of (hc), atI_nat (j := x) hv, ?_⟩
      refine ⟨_, rfl, _, _, _, _, rfl, rfl, SqT.of (ha), atI_nat (j := 0) rfl, ?_⟩
      refine ⟨_, rfl, rfl, _, rfl, ifF (by decide +kernel) ?_⟩
      refine ⟨_, rfl, rfl, _, rfl, ifF (by decide +kernel) ?_⟩
      refine ⟨_, rfl, rfl, _, rfl, ifF (by decide +kernel) ?_⟩
      refine ⟨_, rfl, rfl, _, rfl, ifF (by decide +kernel) ?_⟩
      refine ⟨_, rfl, rfl, _, rfl, ifT (by decide +kernel) ?_⟩
      refine ⟨_, rfl, _, _, rfl, rfl, _, rfl, le_line (by simp), fun p hp => ?_⟩
      have ep := Evl.Ex.new (o := .tup [.int ((x : Int) + 1), xr]) hp
      refine ⟨_, rfl, _, _, _, _, rfl, rfl, SqT.of (ep _ _ ha), atI_nat (j := 3) rfl, _, rfl, _, rfl, _, _, _, _, rfl, rfl, SqT.of (ep _ _ ha), atI_nat (j := 1) rfl, _, rfl, _, _, _, _, rfl, rfl, SqT.of (ep _ _ ha), atI_nat (j := 2) rfl, le_line (by simp), fun p2 hp2 => ?_⟩
      have ep2 := Evl.Ex.new (o := .tup [.str c']) hp2
      refine ⟨xr, _, r, d, some [c'], rfl, hxr.ext (ep.trans ep2), .tup upd_same (.cons (.str c') .nil), by rw [cr.1]; exact wf.1, by rw [cr.1]; exact hm, fun z H3 e3 hz => ?_⟩
      exact ⟨le_line (by simp), fun p' hp' => ⟨le_line (by simp), fun q hq => fin2 H _ (x + 1) t xr z r _ p p' (Evl.Ex.refl _) hp hxr (ep2.trans e3) hz rfl hp' q hq⟩⟩
    | put d e c f t =>
      obtain ⟨a, rfl, ha⟩ := SL.iv_put hvd
      refine ⟨_, rfl, _, rfl, _, _, _, _, rfl, rfl, SqT.of (hc), atI_nat (j := x) hv, ?_⟩
      refine ⟨_, rfl, _, _, _, _, rfl, rfl, SqT.of (ha), atI_nat (j := 0) rfl, ?_⟩
      refine ⟨_, rfl, rfl, _, rfl, ifF (by decide +kernel) ?_⟩
      refine ⟨_, rfl, rfl, _, rfl, ifF (by decide +kernel) ?_⟩
      refine ⟨_, rfl, rfl, _, rfl, ifF (by decide +kernel) ?_⟩
      refine ⟨_, rfl, rfl, _, rfl, ifF (by decide +kernel) ?_⟩
      refine ⟨_, rfl, rfl, _, rfl, ifF (by decide +kernel) ?_⟩
      refine ⟨_, rfl, le_line (by simp), fun p1 h1 => ⟨p1, _, rfl, .inr (SqT.of upd_same), rfl, rfl, _, rfl, ifT (by decide +kernel) ?_⟩⟩
      have e1 := Evl.Ex.new (o := .tup [.str "put", .str "store", .str "tell"]) h1
      exact ⟨_, rfl, _, _, rfl, rfl, _, rfl, le_line (by simp), fun p hp => ⟨le_line (by simp), fun q hq => fin1 _ (x + 1) xr r e1 (hxr.ext e1) rfl p hp q hq⟩⟩
    | store d e k =>
      obtain ⟨a, rfl, ha⟩ := SL.iv_store hvd
      refine ⟨_, rfl, _, rfl, _, _, _, _, rfl, rfl, SqT.of (hc), atI_nat (j := x) hv, ?_⟩
      refine ⟨_, rfl, _, _, _, _, rfl, rfl, SqT.of (ha), atI_nat (j := 0) rfl, ?_⟩
      refine ⟨_, rfl, rfl, _, rfl, ifF (by decide +kernel) ?_⟩
      refine ⟨_, rfl, rfl, _, rfl, ifF (by decide +kernel) ?_⟩
      refine ⟨_, rfl, rfl, _, rfl, ifF (by decide +kernel) ?_⟩
      refine ⟨_, rfl, rfl, _, rfl, ifF (by decide +kernel) ?_⟩
      refine ⟨_, rfl, rfl, _, rfl, ifF (by decide +kernel) ?_⟩
      refine ⟨_, rfl, le_line (by simp), fun p1 h1 => ⟨p1, _, rfl, .inr (SqT.of upd_same), rfl, rfl, _, rfl, ifT (by decide +kernel) ?_⟩⟩
      have e1 := Evl.Ex.new (o := .tup [.str "put", .str "store", .str "tell"]) h1
      exact ⟨_, rfl, _, _, rfl, rfl, _, rfl, le_line (by simp), fun p hp => ⟨le_line (by simp), fun q hq => fin1 _ (x + 1) xr r e1 (hxr.ext e1) rfl p hp q hq⟩⟩
    | tell d =>
      obtain ⟨a, rfl, ha⟩ := SL.iv_tell hvd
      refine ⟨_, rfl, _, rfl, _, _, _, _, rfl, rfl, SqT.of (hc), atI_nat (j := x) hv, ?_⟩
      refine ⟨_, rfl, _, _, _, _, rfl, rfl, SqT.of (ha), atI_nat (j := 0) rfl, ?_⟩
      refine ⟨_, rfl, rfl, _, rfl, ifF (by decide +kernel) ?_⟩
      refine ⟨_, rfl, rfl, _, rfl, ifF (by decide +kernel) ?_⟩
      refine ⟨_, rfl, rfl, _, rfl, ifF (by decide +kernel) ?_⟩
      refine ⟨_, rfl, rfl, _, rfl, ifF (by decide +kernel) ?_⟩
      refine ⟨_, rfl, rfl, _, rfl, ifF (by decide +kernel) ?_⟩
      refine ⟨_, rfl, le_line (by simp), fun p1 h1 => ⟨p1, _, rfl, .inr (SqT.of upd_same), rfl, rfl, _, rfl, ifT (by decide +kernel) ?_⟩⟩
      have e1 := Evl.Ex.new (o := .tup [.str "put", .str "store", .str "tell"]) h1
      exact ⟨_, rfl, _, _, rfl, rfl, _, rfl, le_line (by simp), fun p hp => ⟨le_line (by simp), fun q hq => fin1 _ (x + 1) xr r e1 (hxr.ext e1) rfl p hp q hq⟩⟩
    | new d c =>
      have hvd0 := hvd
      obtain ⟨a, rfl, ha⟩ := SL.iv_new hvd
      refine ⟨_, rfl, _, rfl, _, _, _, _, rfl, rfl, SqT.of (hc), atI_nat (j := x) hv, ?_⟩
      refine ⟨_, rfl, _, _, _, _, rfl, rfl, SqT.of (ha), atI_nat (j := 0) rfl, ?_⟩
      refine ⟨_, rfl, rfl, _, rfl, ifF (by decide +kernel) ?_⟩
      refine ⟨_, rfl, rfl, _, rfl, ifF (by decide +kernel) ?_⟩
      refine ⟨_, rfl, rfl, _, rfl, ifF (by decide +kernel) ?_⟩
      refine ⟨_, rfl, rfl, _, rfl, ifF (by decide +kernel) ?_⟩
      refine ⟨_, rfl, rfl, _, rfl, ifF (by decide +kernel) ?_⟩
      refine ⟨_, rfl, le_line (by simp), fun p1 h1 => ⟨p1, _, rfl, .inr (SqT.of upd_same), rfl, rfl, _, rfl, ifF (by decide +kernel) ?_⟩⟩
      have e1 := Evl.Ex.new (o := .tup [.str "put", .str "store", .str "tell"]) h1
      refine ⟨_, rfl, _, _, rfl, rfl, _, rfl, _, rfl, _, _, _, _, rfl, rfl, SqT.of (e1 _ _ ha), atI_nat (j := 1) rfl, _, rfl, _, rfl, _, _, _, r, U, m, rfl, hvd0.ext e1, hxr.ext e1, cr, wf, rfl, oU, hel, hU, fun y H2 e2 hy => ?_⟩
      refine ⟨xr, y, r, d, _, rfl, hxr.ext (e1.trans e2), hy, by rw [cr.1]; exact wf.1, by rw [cr.1]; exact hm, fun z H3 e3 hz => ?_⟩
      exact ⟨le_line (by simp), fun p hp => ⟨le_line (by simp), fun q hq => fin1 _ (x + 1) z _ ((e1.trans e2).trans e3) hz rfl p hp q hq⟩⟩
    | array d c k =>
      have hvd0 := hvd
      obtain ⟨a, rfl, ha⟩ := SL.iv_array hvd
      refine ⟨_, rfl, _, rfl, _, _, _, _, rfl, rfl, SqT.of (hc), atI_nat (j := x) hv, ?_⟩
      refine ⟨_, rfl, _, _, _, _, rfl, rfl, SqT.of (ha), atI_nat (j := 0) rfl, ?_⟩
      refine ⟨_, rfl, rfl, _, rfl, ifF (by decide +kernel) ?_⟩
      refine ⟨_, rfl, rfl, _, rfl, ifF (by decide +kernel) ?_⟩
      refine ⟨_, rfl, rfl, _, rfl, ifF (by decide +kernel) ?_⟩
      refine ⟨_, rfl, rfl, _, rfl, ifF (by decide +kernel) ?_⟩
      refine ⟨_, rfl, rfl, _, rfl, ifF (by decide +kernel) ?_⟩
      refine ⟨_, rfl, le_line (by simp), fun p1 h1 => ⟨p1, _, rfl, .inr (SqT.of upd_same), rfl, rfl, _, rfl, ifF (by decide +kernel) ?_⟩⟩
      have e1 := Evl.Ex.new (o := .tup [.str "put", .str "store", .str "tell"]) h1
      refine ⟨_, rfl, _, _, rfl, rfl, _, rfl, _, rfl, _, _, _, _, rfl, rfl, SqT.of (e1 _ _ ha), atI_nat (j := 1) rfl, _, rfl, _, rfl, _, _, _, r, U, m, rfl, hvd0.ext e1, hxr.ext e1, cr, wf, rfl, oU, hel, hU, fun y H2 e2 hy => ?_⟩
      refine ⟨xr, y, r, d, _, rfl, hxr.ext (e1.trans e2), hy, by rw [cr.1]; exact wf.1, by rw [cr.1]; exact hm, fun z H3 e3 hz => ?_⟩
      exact ⟨le_line (by simp), fun p hp => ⟨le_line (by simp), fun q hq => fin1 _ (x + 1) z _ ((e1.trans e2).trans e3) hz rfl p hp q hq⟩⟩
    | null d =>
      have hvd0 := hvd
      obtain ⟨a, rfl, ha⟩ := SL.iv_null hvd
      refine ⟨_, rfl, _, rfl, _, _, _, _, rfl, rfl, SqT.of (hc), atI_nat (j := x) hv, ?_⟩
      refine ⟨_, rfl, _, _, _, _, rfl, rfl, SqT.of (ha), atI_nat (j := 0) rfl, ?_⟩
      refine ⟨_, rfl, rfl, _, rfl, ifF (by decide +kernel) ?_⟩
      refine ⟨_, rfl, rfl, _, rfl, ifF (by decide +kernel) ?_⟩
      refine ⟨_, rfl, rfl, _, rfl, ifF (by decide +kernel) ?_⟩
      refine ⟨_, rfl, rfl, _, rfl, ifF (by decide +kernel) ?_⟩
      refine ⟨_, rfl, rfl, _, rfl, ifF (by decide +kernel) ?_⟩
      refine ⟨_, rfl, le_line (by simp), fun p1 h1 => ⟨p1, _, rfl, .inr (SqT.of upd_same), rfl, rfl, _, rfl, ifF (by decide +kernel) ?_⟩⟩
      have e1 := Evl.Ex.new (o := .tup [.str "put", .str "store", .str "tell"]) h1
      refine ⟨_, rfl, _, _, rfl, rfl, _, rfl, _, rfl, _, _, _, _, rfl, rfl, SqT.of (e1 _ _ ha), atI_nat (j := 1) rfl, _, rfl, _, rfl, _, _, _, r, U, m, rfl, hvd0.ext e1, hxr.ext e1, cr, wf, rfl, oU, hel, hU, fun y H2 e2 hy => ?_⟩
      refine ⟨xr, y, r, d, _, rfl, hxr.ext (e1.trans e2), hy, by rw [cr.1]; exact wf, by rw [cr.1]; exact hm, fun z H3 e3 hz => ?_⟩
      exact ⟨le_line (by simp), fun p hp => ⟨le_line (by simp), fun q hq => fin1 _ (x + 1) z _ ((e1.trans e2).trans e3) hz rfl p hp q hq⟩⟩
    | move d e =>
      have hvd0 := hvd
      obtain ⟨a, rfl, ha⟩ := SL.iv_move hvd
      refine ⟨_, rfl, _, rfl, _, _, _, _, rfl, rfl, SqT.of (hc), atI_nat (j := x) hv, ?_⟩
      refine ⟨_, rfl, _, _, _, _, rfl, rfl, SqT.of (ha), atI_nat (j := 0) rfl, ?_⟩
      refine ⟨_, rfl, rfl, _, rfl, ifF (by decide +kernel) ?_⟩
      refine ⟨_, rfl, rfl, _, rfl, ifF (by decide +kernel) ?_⟩
      refine ⟨_, rfl, rfl, _, rfl, ifF (by decide +kernel) ?_⟩
      refine ⟨_, rfl, rfl, _, rfl, ifF (by decide +kernel) ?_⟩
      refine ⟨_, rfl, rfl, _, rfl, ifF (by decide +kernel) ?_⟩
      refine ⟨_, rfl, le_line (by simp), fun p1 h1 => ⟨p1, _, rfl, .inr (SqT.of upd_same), rfl, rfl, _, rfl, ifF (by decide +kernel) ?_⟩⟩
      have e1 := Evl.Ex.new (o := .tup [.str "put", .str "store", .str "tell"]) h1
      refine ⟨_, rfl, _, _, rfl, rfl, _, rfl, _, rfl, _, _, _, _, rfl, rfl, SqT.of (e1 _ _ ha), atI_nat (j := 1) rfl, _, rfl, _, rfl, _, _, _, r, U, m, rfl, hvd0.ext e1, hxr.ext e1, cr, wf, rfl, oU, hel, hU, fun y H2 e2 hy => ?_⟩
      refine ⟨xr, y, r, d, _, rfl, hxr.ext (e1.trans e2), hy, by rw [cr.1]; exact wf.1, by rw [cr.1]; exact hm, fun z H3 e3 hz => ?_⟩
      exact ⟨le_line (by simp), fun p hp => ⟨le_line (by simp), fun q hq => fin1 _ (x + 1) z _ ((e1.trans e2).trans e3) hz rfl p hp q hq⟩⟩
    | get d e c f t =>
      have hvd0 := hvd
      obtain ⟨a, rfl, ha⟩ := SL.iv_get hvd
      refine ⟨_, rfl, _, rfl, _, _, _, _, rfl, rfl, SqT.of (hc), atI_nat (j := x) hv, ?_⟩
      refine ⟨_, rfl, _, _, _, _, rfl, rfl, SqT.of (ha), atI_nat (j := 0) rfl, ?_⟩
      refine ⟨_, rfl, rfl, _, rfl, ifF (by decide +kernel) ?_⟩
      refine ⟨_, rfl, rfl, _, rfl, ifF (by decide +kernel) ?_⟩
      refine ⟨_, rfl, rfl, _, rfl, ifF (by decide +kernel) ?_⟩
      refine ⟨_, rfl, rfl, _, rfl, ifF (by decide +kernel) ?_⟩
      refine ⟨_, rfl, rfl, _, rfl, ifF (by decide +kernel) ?_⟩
      refine ⟨_, rfl, le_line (by simp), fun p1 h1 => ⟨p1, _, rfl, .inr (SqT.of upd_same), rfl, rfl, _, rfl, ifF (by decide +kernel) ?_⟩⟩
      have e1 := Evl.Ex.new (o := .tup [.str "put", .str "store", .str "tell"]) h1
      refine ⟨_, rfl, _, _, rfl, rfl, _, rfl, _, rfl, _, _, _, _, rfl, rfl, SqT.of (e1 _ _ ha), atI_nat (j := 1) rfl, _, rfl, _, rfl, _, _, _, r, U, m, rfl, hvd0.ext e1, hxr.ext e1, cr, wf, rfl, oU, hel, hU, fun y H2 e2 hy => ?_⟩
      refine ⟨xr, y, r, d, _, rfl, hxr.ext (e1.trans e2), hy, by rw [cr.1]; exact wf.1, by rw [cr.1]; exact hm, fun z H3 e3 hz => ?_⟩
      exact ⟨le_line (by simp), fun p hp => ⟨le_line (by simp), fun q hq => fin1 _ (x + 1) z _ ((e1.trans e2).trans e3) hz rfl p hp q hq⟩⟩
    | call d e c f ks t as =>
      have hvd0 := hvd
      obtain ⟨a, v5, v7, rfl, ha, _, _⟩ := SL.iv_call hvd
      refine ⟨_, rfl, _, rfl, _, _, _, _, rfl, rfl, SqT.of (hc), atI_nat (j := x) hv, ?_⟩
      refine ⟨_, rfl, _, _, _, _, rfl, rfl, SqT.of (ha), atI_nat (j := 0) rfl, ?_⟩
      refine ⟨_, rfl, rfl, _, rfl, ifF (by decide +kernel) ?_⟩
      refine ⟨_, rfl, rfl, _, rfl, ifF (by decide +kernel) ?_⟩
      refine ⟨_, rfl, rfl, _, rfl, ifF (by decide +kernel) ?_⟩
      refine ⟨_, rfl, rfl, _, rfl, ifF (by decide +kernel) ?_⟩
      refine ⟨_, rfl, rfl, _, rfl, ifF (by decide +kernel) ?_⟩
      refine ⟨_, rfl, le_line (by simp), fun p1 h1 => ⟨p1, _, rfl, .inr (SqT.of upd_same), rfl, rfl, _, rfl, ifF (by decide +kernel) ?_⟩⟩
      have e1 := Evl.Ex.new (o := .tup [.str "put", .str "store", .str "tell"]) h1
      refine ⟨_, rfl, _, _, rfl, rfl, _, rfl, _, rfl, _, _, _, _, rfl, rfl, SqT.of (e1 _ _ ha), atI_nat (j := 1) rfl, _, rfl, _, rfl, _, _, _, r, U, m, rfl, hvd0.ext e1, hxr.ext e1, cr, wf, rfl, oU, hel, hU, fun y H2 e2 hy => ?_⟩
      refine ⟨xr, y, r, d, _, rfl, hxr.ext (e1.trans e2), hy, by rw [cr.1]; exact wf.1, by rw [cr.1]; exact hm, fun z H3 e3 hz => ?_⟩
      exact ⟨le_line (by simp), fun p hp => ⟨le_line (by simp), fun q hq => fin1 _ (x + 1) z _ ((e1.trans e2).trans e3) hz rfl p hp q hq⟩⟩
    | ask d e c f ks t as =>
      have hvd0 := hvd
      obtain ⟨a, v5, v7, rfl, ha, _, _⟩ := SL.iv_ask hvd
      refine ⟨_, rfl, _, rfl, _, _, _, _, rfl, rfl, SqT.of (hc), atI_nat (j := x) hv, ?_⟩
      refine ⟨_, rfl, _, _, _, _, rfl, rfl, SqT.of (ha), atI_nat (j := 0) rfl, ?_⟩
      refine ⟨_, rfl, rfl, _, rfl, ifF (by decide +kernel) ?_⟩
      refine ⟨_, rfl, rfl, _, rfl, ifF (by decide +kernel) ?_⟩
      refine ⟨_, rfl, rfl, _, rfl, ifF (by decide +kernel) ?_⟩
      refine ⟨_, rfl, rfl, _, rfl, ifF (by decide +kernel) ?_⟩
      refine ⟨_, rfl, rfl, _, rfl, ifF (by decide +kernel) ?_⟩
      refine ⟨_, rfl, le_line (by simp), fun p1 h1 => ⟨p1, _, rfl, .inr (SqT.of upd_same), rfl, rfl, _, rfl, ifF (by decide +kernel) ?_⟩⟩
      have e1 := Evl.Ex.new (o := .tup [.str "put", .str "store", .str "tell"]) h1
      refine ⟨_, rfl, _, _, rfl, rfl, _, rfl, _, rfl, _, _, _, _, rfl, rfl, SqT.of (e1 _ _ ha), atI_nat (j := 1) rfl, _, rfl, _, rfl, _, _, _, r, U, m, rfl, hvd0.ext e1, hxr.ext e1, cr, wf, rfl, oU, hel, hU, fun y H2 e2 hy => ?_⟩
      refine ⟨xr, y, r, d, _, rfl, hxr.ext (e1.trans e2), hy, by rw [cr.1]; exact wf.1, by rw [cr.1]; exact hm, fun z H3 e3 hz => ?_⟩
      exact ⟨le_line (by simp), fun p hp => ⟨le_line (by simp), fun q hq => fin1 _ (x + 1) z _ ((e1.trans e2).trans e3) hz rfl p hp q hq⟩⟩
    | cast d e c =>
      have hvd0 := hvd
      obtain ⟨a, rfl, ha⟩ := SL.iv_cast hvd
      refine ⟨_, rfl, _, rfl, _, _, _, _, rfl, rfl, SqT.of (hc), atI_nat (j := x) hv, ?_⟩
      refine ⟨_, rfl, _, _, _, _, rfl, rfl, SqT.of (ha), atI_nat (j := 0) rfl, ?_⟩
      refine ⟨_, rfl, rfl, _, rfl, ifF (by decide +kernel) ?_⟩
      refine ⟨_, rfl, rfl, _, rfl, ifF (by decide +kernel) ?_⟩
      refine ⟨_, rfl, rfl, _, rfl, ifF (by decide +kernel) ?_⟩
      refine ⟨_, rfl, rfl, _, rfl, ifF (by decide +kernel) ?_⟩
      refine ⟨_, rfl, rfl, _, rfl, ifF (by decide +kernel) ?_⟩
      refine ⟨_, rfl, le_line (by simp), fun p1 h1 => ⟨p1, _, rfl, .inr (SqT.of upd_same), rfl, rfl, _, rfl, ifF (by decide +kernel) ?_⟩⟩
      have e1 := Evl.Ex.new (o := .tup [.str "put", .str "store", .str "tell"]) h1
      refine ⟨_, rfl, _, _, rfl, rfl, _, rfl, _, rfl, _, _, _, _, rfl, rfl, SqT.of (e1 _ _ ha), atI_nat (j := 1) rfl, _, rfl, _, rfl, _, _, _, r, U, m, rfl, hvd0.ext e1, hxr.ext e1, cr, wf, rfl, oU, hel, hU, fun y H2 e2 hy => ?_⟩
      refine ⟨xr, y, r, d, _, rfl, hxr.ext (e1.trans e2), hy, by rw [cr.1]; exact wf.1, by rw [cr.1]; exact hm, fun z H3 e3 hz => ?_⟩
      exact ⟨le_line (by simp), fun p hp => ⟨le_line (by simp), fun q hq => fin1 _ (x + 1) z _ ((e1.trans e2).trans e3) hz rfl p hp q hq⟩⟩
    | load d e k =>
      have hvd0 := hvd
      obtain ⟨a, rfl, ha⟩ := SL.iv_load hvd
      refine ⟨_, rfl, _, rfl, _, _, _, _, rfl, rfl, SqT.of (hc), atI_nat (j := x) hv, ?_⟩
      refine ⟨_, rfl, _, _, _, _, rfl, rfl, SqT.of (ha), atI_nat (j := 0) rfl, ?_⟩
      refine ⟨_, rfl, rfl, _, rfl, ifF (by decide +kernel) ?_⟩
      refine ⟨_, rfl, rfl, _, rfl, ifF (by decide +kernel) ?_⟩
      refine ⟨_, rfl, rfl, _, rfl, ifF (by decide +kernel) ?_⟩
      refine ⟨_, rfl, rfl, _, rfl, ifF (by decide +kernel) ?_⟩
      refine ⟨_, rfl, rfl, _, rfl, ifF (by decide +kernel) ?_⟩
      refine ⟨_, rfl, le_line (by simp), fun p1 h1 => ⟨p1, _, rfl, .inr (SqT.of upd_same), rfl, rfl, _, rfl, ifF (by decide +kernel) ?_⟩⟩
      have e1 := Evl.Ex.new (o := .tup [.str "put", .str "store", .str "tell"]) h1
      refine ⟨_, rfl, _, _, rfl, rfl, _, rfl, _, rfl, _, _, _, _, rfl, rfl, SqT.of (e1 _ _ ha), atI_nat (j := 1) rfl, _, rfl, _, rfl, _, _, _, r, U, m, rfl, hvd0.ext e1, hxr.ext e1, cr, wf, rfl, oU, hel, hU, fun y H2 e2 hy => ?_⟩
      refine ⟨xr, y, r, d, _, rfl, hxr.ext (e1.trans e2), hy, by rw [cr.1]; exact wf.1, by rw [cr.1]; exact hm, fun z H3 e3 hz => ?_⟩
      exact ⟨le_line (by simp), fun p hp => ⟨le_line (by simp), fun q hq => fin1 _ (x + 1) z _ ((e1.trans e2).trans e3) hz rfl p hp q hq⟩⟩
end
end K07
set_option Elab.async false
set_option linter.all false
set_option maxRecDepth 100000
set_option maxHeartbeats 0
namespace K07
open PySem PySem.Spec PyProof.Rows L2 EX2 TX
open SL (setT rowT orT setL rowL orL jS jR CanS CanR newR Ins Wf dN leadT)
/-- a property of a method, read -/
def GetP (P : Program) (w : World) (K : PySem.W.Frag) (mg : Str → Option Value) (base : Heap) (x own : Str) : Prop :=
  PropOf K (He.ga K "Method") x (prA K "Method" x) (prG "Method" x K) ∧ ∃ fd, FnOk P w K mg base CX0 1 (prG "Method" x K) fd ["self"] (getSp (He.ga K "Method") own) ∧ Binds K fd ["self"] []
structure MGet (P : Program) (w : World) (K : PySem.W.Frag) (mg : Str → Option Value) (base : Heap) : Prop where
  M : MethF K mg
  g2 : GetP P w K mg base "params" "own_params"
  g4 : GetP P w K mg base "size" "own_size"
  g5 : GetP P w K mg base "code" "own_code"
/-- a method's object, its parts as data -/
structure MAt (K : PySem.W.Frag) (H : Hp) (m : V) (pl : List Str) (sz : Nat) (is : List Ins) : Prop where
  ex : ∃ (x dx : Addr) (n p r c : V), m = .ref x ∧ H x = some (.ins (He.ga K "Method") dx [("own_name", n), ("own_params", p), ("own_result", r), ("own_size", .int (sz : Int)), ("own_code", c)]) ∧ Dq H p (.tuple (pl.map .str)) ∧ Dq H c (.tuple (is.map Ins.data))
theorem MAt.ext {K : PySem.W.Frag} {H H' : Hp} {m : V} {pl : List Str} {sz : Nat} {is : List Ins} (h : MAt K H m pl sz is) (e : Evl.Ex H H') : MAt K H' m pl sz is := by
  obtain ⟨x, dx, n, p, r, c, h1, h2, h3, h4⟩ := h.ex
  exact ⟨x, dx, n, p, r, c, h1, e _ _ h2, h3.ext e, h4.ext e⟩
theorem nonesD (G : Hp) : ∀ k, DqAll G (List.replicate k V.non) (List.replicate k PyData.none)
  | 0 => .nil
  | k + 1 => .cons .non (nonesD G k)
theorem flat_nones : ∀ k, (List.replicate k [V.non]).flatten = List.replicate k V.non
  | 0 => rfl
  | k + 1 => by rw [List.replicate_succ, List.flatten_cons, flat_nones k]; rfl
def beginR (owner : Str) (pl : List Str) (sz : Nat) : Rw := (some [owner]) :: (pl.map fun k => some [k]) ++ List.replicate (sz - (1 + pl.length)) none
theorem beginR_can {U : List Str} {owner : Str} {pl : List Str} {sz : Nat} (ho : owner ∈ U) (hp : ∀ k ∈ pl, k ∈ U) (hz : 1 + pl.length ≤ sz) : CanR U sz (beginR owner pl sz) := by
  refine ⟨?_, fun s hs => ?_⟩
  · unfold beginR
    rw [List.length_append, List.length_cons, List.length_map, List.length_replicate]
    omega
  · unfold beginR at hs
    rcases List.mem_append.mp hs with h | h
    · rcases List.mem_cons.mp h with rfl | h
      · exact SL.can1 ho
      · obtain ⟨k, hk, rfl⟩ := List.mem_map.mp h
        exact SL.can1 (hp k hk)
    · rw [(List.mem_replicate.mp h).2]
      exact fun l e => nomatch e
def spBegin (K : PySem.W.Frag) : Sp := fun vs H Q _ => ∃ (o : Str) (m : V) (pl : List Str) (sz : Nat) (is : List Ins), vs = [.str o, m] ∧ MAt K H m pl sz is ∧ 1 + pl.length ≤ sz ∧ sz ≤ 1000 ∧ ∀ v H', Evl.Ex H H' → Dq H' v (rowT (beginR o pl sz)) → Q v H'
section
variable {P : Program} {w : World} {K : PySem.W.Frag} {mg : Str → Option Value} {base : Heap} {f : Addr} {fd : FuncData}
abbrev nbegin : List Str := ["owner", "method", "given", "kind"]
theorem scbegin : FnScope nbegin ["owner", "method"] (defScope sbegin) := ⟨rfl, rfl, rfl, by decide +kernel, rfl, by decide +kernel, by decide +kernel⟩
theorem ok_begin (F : FnP K "begin_row" sbegin f fd) (T : Txt K mg) (G : MGet P w K mg base) : FnOk P w K mg base CX0 3 f fd ["owner", "method"] (spBegin K) := by
  obtain ⟨p2, fd2, G2, b2⟩ := G.g2
  obtain ⟨p4, fd4, G4, b4⟩ := G.g4
  have M := G.M
  refine F.ok scbegin (fun vs H Q E h => ?_) (fun cdv A outer s H vs Q E hr h => ?_)
  · obtain ⟨o, m, pl, sz, is, rfl, _⟩ := h
    rfl
  · obtain ⟨o, m, pl, sz, is, rfl, hm, hz, h10, hQ⟩ := h
    refine ⟨_, PSs.nox (pss_cons (ps_set (i := 2) scbegin.nd rfl (Or.inl rfl) (pe_op op_cat (pe_lst (pa_cons (pe_tup (pa_cons (pv 0) pa_nil)) pa_nil)) (pe_lc (own := [("kind", 3)]) (g := gName 3) (tt := tYes) rfl scbegin.nd (pi_tup (pe_prop (pv 1) M.cl p2 G2 (hr.mono (by decide)) b2 .nil pass0 rfl)) (blkOk_by (N := nbegin) (sc := defScope sbegin) (by decide +kernel)) (fun _ _ _ _ _ => (pg_name (i := 3) scbegin.nd rfl (Or.inl rfl))) (fun _ _ _ _ _ => pts_nil) (fun _ _ _ _ _ => (pe_tup (pa_cons (pv 3) pa_nil))))))
      (pss_one (ps_ret (pe_callTy call_tuple_of rfl T.tup boot_tuple (pa_cons (pe_op op_cat (pv 2) (pe_op op_rep (pe_lst (pa_cons pe_non pa_nil)) (pe_op op_sub (pe_prop (pv 1) M.cl p4 G4 (hr.mono (by decide)) b4 .nil pass0 rfl) (pe_callB call_len rfl T.len boot_len (pa_cons (pv 2) pa_nil))))) pa_nil))))), ?_⟩
    obtain ⟨x, dx, n, p, r, c, rfl, hx, hp, hc⟩ := hm.ex
    obtain ⟨pa, ps, rfl, hpa, hall⟩ := hp.tupI
    rw [strsV hall] at hpa
    refine ⟨_, rfl, le_line (by simp), fun p1 h1 => ⟨le_line (by simp), fun q1 g1 => ?_⟩⟩
    have e1 := Evl.Ex.new (o := .tup [.str o]) h1
    have e2 := Evl.Ex.new (o := .lst [.ref p1]) g1
    have e12 := e1.trans e2
    refine ⟨_, rfl, x, dx, _, rfl, e12 _ _ hx, x, dx, _, .ref pa, rfl, e12 _ _ hx, rfl, pa, rfl, ⟨_, SqT.of (e12 _ _ hpa)⟩, fun D1 hD1 => ?_⟩
    refine lc_rm (walk_tup (xs := pl.map V.str)) hD1 (fun H' e => SqT.of ((e12.trans e) _ _ hpa)) (fun j => setT (some [pl.getD j Str.empty])) (by rw [List.length_map]; omega) (fun j H2 x H3 _ _ y => by rw [y.1]; exact Evl.Ex.refl _) ?_ ?_
    · rintro j y H2 H3 acc hj e3 e4 hD3 ⟨rfl, hy⟩ Qt hQt
      rw [List.getElem?_map] at hy
      obtain ⟨k, hk, rfl⟩ : ∃ k, pl[j]? = some k ∧ y = .str k := by
        cases z : pl[j]? with
        | none => rw [z] at hy; cases hy
        | some k => rw [z] at hy; exact ⟨k, rfl, (Option.some.inj hy).symm⟩
      refine ⟨rfl, _, rfl, le_line (by simp), fun p3 h3 => ?_⟩
      have e5 := Evl.Ex.new (o := .tup [.str k]) h3
      refine hQt _ _ e5 ?_
      have eg : pl.getD j Str.empty = k := by rw [List.getD_eq_getElem?_getD, hk]; rfl
      rw [eg]
      exact dq_rmL' (e5 _ _ hD3) (.tup upd_same (.cons (.str k) .nil)) rfl
    · intro H3 zs e3 hD3 hz3
      rw [List.length_map] at hz3
      have ed : (List.range pl.length).map (fun j => setT (some [pl.getD j Str.empty])) = pl.map fun k => setT (some [k]) :=
        map_range_get pl _ _ fun i k e => by rw [List.getD_eq_getElem?_getD, e]; rfl
      rw [ed] at hz3
      have lz : zs.length = pl.length := by rw [DqAll.length hz3, List.length_map]
      refine ⟨q1, D1, [.ref p1], zs, rfl, rfl, e3 _ _ upd_same, hD3, by simp; rw [lz]; exact le_line (by omega), fun q2 g2 => ?_⟩
      have e4 := Evl.Ex.new (o := .lst ([.ref p1] ++ zs)) g2
      have e04 := (e12.trans e3).trans e4
      refine ⟨_, rfl, le_line (by simp), fun q3 g3 => ?_⟩
      have e5 := Evl.Ex.new (o := .lst [.non]) g3
      have e05 := e04.trans e5
      refine ⟨_, rfl, x, dx, _, rfl, e05 _ _ hx, x, dx, _, .int (sz : Int), rfl, e05 _ _ hx, rfl, ?_⟩
      have hq2 : ∀ {H' : Hp}, Evl.Ex (upd H3 q2 (.lst ([.ref p1] ++ zs))) H' → H' q2 = some (.lst ([.ref p1] ++ zs)) := fun e => e _ _ upd_same
      refine ⟨_, rfl, _, _, rfl, .inl ⟨_, SqL.of (hq2 e5), rfl⟩, _, _, rfl, rfl, ?_⟩
      have ek : ((sz : Int) - (([V.ref p1] ++ zs).length : Int)).toNat = sz - (1 + pl.length) := by simp; omega
      refine ⟨q3, _, [.non], rfl, rfl, upd_same, by simp; omega, by simp; omega, ?_, fun q4 g4 => ?_⟩
      · rw [ek]; simp; have := le_line h10; omega
      have e6 := Evl.Ex.new (o := .lst (List.replicate ((sz : Int) - (([V.ref p1] ++ zs).length : Int)).toNat [V.non]).flatten) g4
      have er : (List.replicate ((sz : Int) - (([V.ref p1] ++ zs).length : Int)).toNat [V.non]).flatten = List.replicate (sz - (1 + pl.length)) V.non := by
        rw [ek]
        generalize sz - (1 + pl.length) = k
        induction k with
        | zero => rfl
        | succ k ih => rw [List.replicate_succ, List.flatten_cons, ih]; rfl
      rw [er] at e6 ⊢
      refine ⟨q2, q4, _, _, rfl, rfl, hq2 (e5.trans e6), upd_same, ?_, fun q5 g5 => ?_⟩
      · rw [List.length_append, List.length_replicate, lz]; simp; exact le_line (by omega)
      have e7 := Evl.Ex.new (o := .lst ([V.ref p1] ++ zs ++ List.replicate (sz - (1 + pl.length)) V.non)) g5
      refine ⟨q5, _, rfl, .inl ⟨SqL.of upd_same, fun q6 g6 => ?_⟩⟩
      have e8 := Evl.Ex.new (o := .tup ([V.ref p1] ++ zs ++ List.replicate (sz - (1 + pl.length)) V.non)) g6
      have e38 := ((e4.trans e5).trans e6).trans (e7.trans e8)
      refine hQ _ _ (e04.trans ((e5.trans e6).trans (e7.trans e8))) (.tup upd_same ?_)
      have d1 : Dq (upd H p1 (.tup [.str o])) (.ref p1) (setT (some [o])) := .tup upd_same (.cons (.str o) .nil)
      have d2 := DqAll.ext rm_ex hz3
      unfold beginR
      rw [List.map_append, List.map_cons, List.map_map, List.map_replicate]
      refine DqAll.app (DqAll.app (xs := [_]) (ds := [_]) (.cons (d1.ext ((e2.trans e3).trans e38)) .nil) (DqAll.ext e38 d2)) ?_
      exact nonesD _ _
end
end K07
set_option Elab.async false
set_option linter.all false
set_option maxRecDepth 100000
set_option maxHeartbeats 0
namespace EX2
open PySem PySem.Spec PyProof.Rows L2
section
variable {K : PySem.W.Frag} {H : Hp}
mutual
/-- data without dicts, for == -/
theorem dp_q : ∀ {x : V} {d : PyData}, Dq H x d → d.canLay0 = true → Dp K H x d
  | _, _, .non, _ => .non
  | _, _, .bl b, _ => .bl b
  | _, _, .int i, _ => .int i
  | _, _, .str x, _ => .str x
  | _, _, .lst q h, n => .lst (SqL.of q) (dpAll_q h n)
  | _, _, .tup q h, n => .tup (SqT.of q) (dpAll_q h n)
  | _, _, .dk q h, n => by cases n
theorem dpAll_q : ∀ {xs : List V} {ds : List PyData}, DqAll H xs ds → PyData.canLayAll0 ds = true → DpAll K H xs ds
  | _, _, .nil, _ => .nil
  | _, _, .cons h t, n => by
    simp only [PyData.canLayAll0, Bool.and_eq_true] at n
    exact .cons (dp_q h n.1) (dpAll_q t n.2)
end
end
end EX2
set_option Elab.async false
set_option linter.all false
set_option maxRecDepth 100000
set_option maxHeartbeats 0
namespace K07
open PySem PySem.Spec PyProof.Rows L2 EX2 TX
open SL (setT rowT orT setL rowL orL jS jR CanS CanR newR Ins Wf dN leadT)
abbrev Tb : Type := SL.Tab
/-- what a method's least table is reckoned over -/
structure Ok7 (U : List Str) (o : Str) (pl : List Str) (sz : Nat) (is : List Ins) : Prop where
  ok : SL.OkU U
  el : ∀ z ∈ U, ∀ y, SL.elem z = some y → y ∈ U
  few : U.length < 64
  ho : o ∈ U
  hp : ∀ k ∈ pl, k ∈ U
  s0 : 1 + pl.length ≤ sz
  s1 : sz ≤ 10
  c0 : 0 < is.length
  c1 : is.length ≤ 40
  wf : ∀ i ∈ is, Wf U sz i
def Lst (U : List Str) (o : Str) (pl : List Str) (sz : Nat) (is : List Ins) (T : Tb) : Prop := SL.Least U sz is.length (SL.leads is) (beginR o pl sz) T
def spLeast (K : PySem.W.Frag) : Sp := fun vs H Q _ => ∃ (o : Str) (m : V) (pl : List Str) (sz : Nat) (is : List Ins) (U : List Str), vs = [.str o, m] ∧ MAt K H m pl sz is ∧ Ok7 U o pl sz is ∧
  ∀ v T H', Evl.Ex H H' → Lst U o pl sz is T → Dq H' v (.tuple (T.map orT)) → Q v H'
section
variable {P : Program} {w : World} {K : PySem.W.Frag} {mg : Str → Option Value} {base : Heap} {f : Addr} {fd : FuncData}
abbrev nleast : List Str := ["owner", "method", "code", "rows", "line", "index", "target", "row"]
theorem scleast : FnScope nleast ["owner", "method"] (defScope sleast) := ⟨rfl, rfl, rfl, by decide +kernel, rfl, by decide +kernel, by decide +kernel⟩
theorem ok_least (F : FnP K "least_rows" sleast f fd) (T : Txt K mg) (D : SetDefs K mg) (G : MGet P w K mg base) : FnOk P w K mg base CX0 5 f fd ["owner", "method"] (spLeast K) := by
  obtain ⟨p5, fd5, G5, b5⟩ := G.g5
  have M := G.M
  obtain ⟨fB, fdB, gB, FB⟩ := D.begin_row
  have GB : FnOk P w K mg base CX0 3 fB fdB ["owner", "method"] (spBegin K) := ok_begin FB T G
  have bB : Binds K fdB ["owner", "method"] [] := FB.bindsN fun _ _ _ _ _ _ us hl => match us, hl with | [_, _], _ => rfl
  obtain ⟨fL, fdL, gL, FL⟩ := D.leads
  have GL : FnOk P w K mg base CX0 4 fL fdL ["code", "index", "row"] spLeads := ok_leads FL T D
  have bL : Binds K fdL ["code", "index", "row"] [] := FL.bindsN fun _ _ _ _ _ _ us hl => match us, hl with | [_, _, _], _ => rfl
  obtain ⟨fJ, fdJ, gJ, FJ⟩ := D.joined_rows
  have GJ : FnOk P w K mg base CX0 2 fJ fdJ ["one", "other"] spJR := ok_jr FJ T D
  have bJ : Binds K fdJ ["one", "other"] [] := FJ.bindsN fun _ _ _ _ _ _ us hl => match us, hl with | [_, _], _ => rfl
  refine F.ok scleast (fun vs H Q E h => ?_) (fun cdv A outer s H vs Q E hr h => ?_)
  · obtain ⟨o, m, pl, sz, is, U, rfl, _⟩ := h
    rfl
  · obtain ⟨o, m, pl, sz, is, U, rfl, hm, k7, hQ⟩ := h
    refine ⟨_, PSs.nox (pss_cons (ps_set (i := 2) scleast.nd rfl (Or.inl rfl) (pe_prop (pv 1) M.cl p5 G5 (hr.mono (by decide)) b5 .nil pass0 rfl))
      (pss_cons (ps_par (i := 3) (j := 4) rfl scleast.nd rfl rfl (by decide) rfl rfl (pa_cons (pe_op op_rep (pe_lst (pa_cons pe_non pa_nil)) (pe_callB call_len rfl T.len boot_len (pa_cons (pv 2) pa_nil))) (pa_cons (pe_lst (pa_cons pe_int pa_nil)) pa_nil)) (by rfl))
      (pss_cons (ps_asg (pe_call GB (hr.mono (by decide)) rfl gB FB.kp bB .nil pass0 (pa_cons (pv 0) (pa_cons (pv 1) pa_nil))) (pg_sub (pv 3) pe_int set_list))
      (pss_cons (ps_while PassesOwn.never (pt_cmpR (op_ne_lst0 hr.units0) (pv 4) (pe_lst pa_nil) (nomark _))
        (pss_cons (ps_set (i := 5) scleast.nd rfl (Or.inl rfl) (pe_bm0 PySem.F.plainAttrs_list PySem.F.slot_list_pop PySem.F.type_list_pop mt_pop (pv 4)))
        (pss_one (ps_for PassesOwn.never rfl (pi_list (pe_call GL (hr.mono (by decide)) rfl gL FL.kp bL .nil pass0 (pa_cons (pv 2) (pa_cons (pv 5) (pa_cons (pe_ix ix_list (pv 3) (pv 5) (fun _ _ => rfl)) pa_nil))))) (pg_tup rfl (pgs_cons (pg_name (i := 6) scleast.nd rfl (Or.inl rfl)) (pgs_cons (pg_name (i := 7) scleast.nd rfl (Or.inl rfl)) pgs_nil)))
          (pss_one (ps_if (PW.pt (pw_and (pt_cmpR op_lt (pv 6) (pe_callB call_len rfl T.len boot_len (pa_cons (pv 2) pa_nil)) (nomark _)) (pw_and1 (pt_cmpR (op_neD hr.units) (pe_call GJ (hr.mono (by decide)) rfl gJ FJ.kp bJ .nil pass0 (pa_cons (pe_ix ix_list (pv 3) (pv 6) (fun _ _ => rfl)) (pa_cons (pv 7) pa_nil))) (pe_ix ix_list (pv 3) (pv 6) (fun _ _ => rfl)) (nomark _)))))
            (pss_cons (ps_asg (pe_call GJ (hr.mono (by decide)) rfl gJ FJ.kp bJ .nil pass0 (pa_cons (pe_ix ix_list (pv 3) (pv 6) (fun _ _ => rfl)) (pa_cons (pv 7) pa_nil))) (pg_sub (pv 3) (pv 6) set_list))
            (pss_one (ps_expr (pe_bm PySem.F.plainAttrs_list PySem.F.slot_list_append PySem.F.type_list_append mt_append (pv 4) (pa_cons (pv 6) pa_nil)))))
            pss_nil))))))
      (pss_one (ps_ret (pe_callTy call_tuple_of rfl T.tup boot_tuple (pa_cons (pv 3) pa_nil)))))))), ?_⟩
    obtain ⟨x, dx, nv, p, r, c, rfl, hx, hp, hc⟩ := hm.ex
    have hm0 := hm
    obtain ⟨ca, cs, rfl, hca, hallC⟩ := hc.tupI
    have lc : cs.length = is.length := by rw [DqAll.length hallC, List.length_map]
    have MM := SL.leads_mono k7.el k7.wf
    have hb := beginR_can k7.ho k7.hp k7.s0
    have c1 := k7.c1
    have c0 := k7.c0
    refine ⟨_, rfl, x, dx, _, rfl, hx, x, dx, _, .ref ca, rfl, hx, rfl, ?_⟩
    refine ⟨le_line (by simp), fun q1 g1 => ?_⟩
    have e1 := Evl.Ex.new (o := .lst [.non]) g1
    refine ⟨_, rfl, _, _, rfl, .inr ⟨_, SqT.of (e1 _ _ hca), rfl⟩, ?_⟩
    refine ⟨q1, _, [.non], rfl, rfl, upd_same, by simp, by simp; omega, by simp; exact le_line (by omega), fun R hR => ?_⟩
    have er : (List.replicate (((cs.length : Nat) : Int)).toNat [V.non]).flatten = List.replicate is.length V.non := by
      rw [Int.toNat_natCast, flat_nones, lc]
    have e2 := Evl.Ex.new (o := .lst (List.replicate (((cs.length : Nat) : Int)).toNat [V.non]).flatten) hR
    rw [er] at e2 ⊢
    refine ⟨le_line (by simp), fun Ln hLn => ?_⟩
    have e3 := Evl.Ex.new (o := .lst [.int 0]) hLn
    have e123 := (e1.trans e2).trans e3
    refine ⟨_, _, rfl, ?_⟩
    refine ⟨_, rfl, _, rfl, o, .ref x, pl, sz, is, rfl, hm0.ext e123, k7.s0, by have := k7.s1; omega, fun v0 H4 e4 hv0 => ?_⟩
    have nR : H R = none := by
      cases z : H R with
      | none => rfl
      | some u => have := e1 _ _ z; rw [hR] at this; cases this
    have nL : H Ln = none := by
      cases z : H Ln with
      | none => rfl
      | some u => have := (e1.trans e2) _ _ z; rw [hLn] at this; cases this
    have nRL : R ≠ Ln := by rintro rfl; rw [upd_same] at hLn; cases hLn
    have hR4 : H4 R = some (.lst (List.replicate is.length V.non)) := e4 _ _ (e3 _ _ upd_same)
    have hL4 : H4 Ln = some (.lst [.int 0]) := e4 _ _ upd_same
    have e04 : Evl.Ex H H4 := e123.trans e4
    refine ⟨_, rfl, R, _, 0, 0, rfl, rfl, hR4, ?_, ?_⟩
    · unfold L2.ixN
      rw [List.length_replicate, if_pos (by decide), if_pos (by omega)]
      rfl
    -- the line of work
    have hR5 : (upd H4 R (.lst ((List.replicate is.length V.non).set 0 v0))) R = some (.lst ((List.replicate is.length V.non).set 0 v0)) := upd_same
    have hL5 : (upd H4 R (.lst ((List.replicate is.length V.non).set 0 v0))) Ln = some (.lst [.int 0]) := by rw [upd_ne (Ne.symm nRL)]; exact hL4
    have e05 : Evl.Ex H (upd H4 R (.lst ((List.replicate is.length V.non).set 0 v0))) := e04.mut nR
    have d5 : DqAll (upd H4 R (.lst ((List.replicate is.length V.non).set 0 v0))) ((List.replicate is.length V.non).set 0 v0) (((List.replicate is.length none).set 0 (some (beginR o pl sz))).map orT) := by
      rw [List.map_set, List.map_replicate]
      exact DqAll.setA (nonesD _ _) (Dq.mutD hR4 hv0 (SL.noL_rowT _)) 0
    generalize upd H4 R (.lst ((List.replicate is.length V.non).set 0 v0)) = H5 at hR5 hL5 e05 d5
    generalize (List.replicate is.length V.non).set 0 v0 = rv0 at hR5 d5
    refine ⟨fun k σ' H' => Evl.Ex H H' ∧ ∃ (rv : List V) (T : Tb) (ln : List Nat) (v5 v6 v7 : Option V), H' R = some (.lst rv) ∧ DqAll H' rv (T.map orT) ∧ H' Ln = some (.lst (ln.map fun (i : Nat) => V.int (i : Int))) ∧ SL.WInv U sz is.length (SL.leads is) (beginR o pl sz) T ln ∧
      k = 2 * SL.pot U sz T + ln.length ∧ k ≤ 100000 ∧ σ' = [some (.str o), some (.ref x), some (.ref ca), some (.ref R), some (.ref Ln), v5, v6, v7], ⟨_, e05, rv0, _, [0], none, none, none, hR5, d5, hL5, SL.winv0 c0 hb, rfl, ?_, rfl⟩, ?_⟩
    · have := SL.pot_le U sz ((List.replicate is.length (none : Option Rw)).set 0 (some (beginR o pl sz)))
      rw [List.length_set, List.length_replicate] at this
      have s1 := k7.s1
      have few := k7.few
      have : is.length * SL.cap U sz ≤ 40 * 651 := Nat.mul_le_mul c1 (by unfold SL.cap; have := Nat.mul_le_mul s1 (show U.length + 1 ≤ 65 by omega); omega)
      simp only [List.length_cons, List.length_nil]
      omega
    rintro k σ' H' ⟨e, rv, T0, ln, v5, v6, v7, hRv, hd, hLv, win, hk, hkz, rfl⟩
    refine ⟨_, rfl, le_line (by simp), fun q hq => ?_⟩
    have eq := Evl.Ex.new (o := .lst []) hq
    refine ⟨Ln, q, _, rfl, rfl, SqL.of (eq _ _ hLv), SqL.of upd_same, ?_⟩
    rcases List.eq_nil_or_concat ln with rfl | ⟨lnp, xw, rfl⟩
    · refine ⟨false, rfl, ?_⟩
      dsimp only
      rw [if_neg (by decide)]
      refine ⟨_, rfl, R, rv, rfl, .inl ⟨SqL.of (eq _ _ hRv), fun l hl => ?_⟩⟩
      have el := Evl.Ex.new (o := .tup rv) hl
      exact hQ _ T0 _ (e.trans (eq.trans el)) win.least (.tup upd_same (hd.ext (eq.trans el)))
    rw [List.concat_eq_append] at hLv win hk
    rw [List.concat_eq_append, List.map_append]
    rw [List.map_append] at hLv
    obtain ⟨r0, hT0, hxn, hr0, win1⟩ := win.pop
    refine ⟨true, by simp, ?_⟩
    dsimp only
    rw [if_pos rfl]
    refine ⟨_, fun _ _ h => h, ?_⟩
    refine ⟨_, rfl, .inl ⟨rfl, _, SqL.of (eq _ _ hLv)⟩, Ln, _, V.int (xw : Int), rfl, rfl, eq _ _ hLv, by simp, ?_⟩
    have ed : (lnp.map (fun (i : Nat) => V.int (i : Int)) ++ [xw].map (fun (i : Nat) => V.int (i : Int))).dropLast = lnp.map fun (i : Nat) => V.int (i : Int) := List.dropLast_concat
    rw [ed]
    have hL6 : (upd (upd H' q (.lst [])) Ln (.lst (lnp.map fun (i : Nat) => V.int (i : Int)))) Ln = some (.lst (lnp.map fun (i : Nat) => V.int (i : Int))) := upd_same
    have hR6 : (upd (upd H' q (.lst [])) Ln (.lst (lnp.map fun (i : Nat) => V.int (i : Int)))) R = some (.lst rv) := by rw [upd_ne nRL]; exact eq _ _ hRv
    have e6 : Evl.Ex H (upd (upd H' q (.lst [])) Ln (.lst (lnp.map fun (i : Nat) => V.int (i : Int)))) := (e.trans eq).mut nL
    have d6 : DqAll (upd (upd H' q (.lst [])) Ln (.lst (lnp.map fun (i : Nat) => V.int (i : Int)))) rv (T0.map orT) := DqAll.mutD (eq _ _ hLv) (hd.ext eq) (SL.noL_map orT SL.noL_orT T0)
    generalize upd (upd H' q (.lst [])) Ln (.lst (lnp.map fun (i : Nat) => V.int (i : Int))) = H6 at hL6 hR6 e6 d6
    obtain ⟨iw, hiw⟩ : ∃ iw, is[xw]? = some iw := ⟨_, List.getElem?_eq_getElem hxn⟩
    have eF : SL.leads is xw r0 = SL.lead xw r0 iw := by unfold SL.leads; rw [hiw]
    obtain ⟨vr0, hvr0, dvr0⟩ := d6.getD (i := xw) (d := rowT r0) (by rw [List.getElem?_map, hT0]; rfl)
    refine ⟨_, rfl, _, rfl, _, rfl, _, rfl, R, rv, _, vr0, rfl, rfl, SqL.of hR6, atI_nat (j := xw) hvr0, ?_⟩
    refine ⟨_, _, is, xw, iw, r0, U, sz, rfl, .tup (e6 _ _ hca) (hallC.ext e6), hiw, dvr0, hr0, Nat.le_trans k7.s1 (by decide), k7.wf iw (List.mem_of_getElem? hiw), k7.ok, k7.el, k7.few, fun L zs H7 e7 nL7 hL7 hz => ?_⟩
    rw [← eF] at hz
    have nLR : L ≠ R := by rintro rfl; rw [hR6] at nL7; cases nL7
    have nLLn : L ≠ Ln := by rintro rfl; rw [hL6] at nL7; cases nL7
    have zl : zs.length = (SL.leads is xw r0).length := by rw [hz.length, List.length_map]
    refine ⟨L, rfl, ⟨_, SqL.of hL7⟩, for_it (walk_list (xs := zs)) (fun j σ' H' => Evl.Ex H H' ∧ H' L = some (.lst zs) ∧ DqAll H' zs ((SL.leads is xw r0).map leadT) ∧ ∃ (rv : List V) (T : Tb) (ln : List Nat) (v6 v7 : Option V), H' R = some (.lst rv) ∧ DqAll H' rv (T.map orT) ∧ H' Ln = some (.lst (ln.map fun (i : Nat) => V.int (i : Int))) ∧ SL.WIn U sz is.length (SL.leads is) (beginR o pl sz) T ln xw r0 ((SL.leads is xw r0).take j) ∧
      2 * SL.pot U sz T + ln.length < k ∧ σ' = [some (.str o), some (.ref x), some (.ref ca), some (.ref R), some (.ref Ln), some (.int (xw : Int)), v6, v7])
      ⟨e6.trans e7, hL7, hz, rv, T0, lnp, v6, v7, e7 _ _ hR6, d6.ext e7, e7 _ _ hL6, by rw [List.take_zero]; exact win1, by rw [hk, List.length_append]; simp, rfl⟩ (fun j σ H _ h => SqL.of h.2.1) ?_ ?_⟩
    · rintro j y σ8 H8 H9 hj ⟨e8, hL8, hz8, rv8, T8, ln8, u6, u7, hR8, d8, hLn8, win8, hk8, rfl⟩ ⟨rfl, hy⟩
      obtain ⟨dz, hdz, hyz⟩ := hz8.get hy
      obtain ⟨pp, hpp, rfl⟩ : ∃ pp, (SL.leads is xw r0)[j]? = some pp ∧ leadT pp = dz := by
        rw [List.getElem?_map] at hdz
        cases z : (SL.leads is xw r0)[j]? with
        | none => rw [z] at hdz; cases hdz
        | some pp => rw [z] at hdz; exact ⟨pp, rfl, Option.some.inj hdz⟩
      have hmem : pp ∈ SL.leads is xw r0 := List.mem_of_getElem? hpp
      have hcr := MM.can hxn hr0 pp hmem
      have etake : (SL.leads is xw r0).take (j + 1) = (SL.leads is xw r0).take j ++ [pp] := by rw [List.take_succ, hpp]; rfl
      obtain ⟨t, sr⟩ := pp
      obtain ⟨a, vs, rfl, ha, hall⟩ := Dq.tupI hyz
      match hall with
      | .cons (.int _) (.cons (x := vrow) hrow .nil) =>
      refine ⟨a, _, rfl, SqT.of ha, rfl, _, _, rfl, _, _, rfl, rfl, ?_⟩
      refine ⟨_, rfl, _, rfl, _, cs.length, rfl, .inr ⟨cs, SqT.of (e8 _ _ hca), rfl⟩, ?_⟩
      refine ⟨_, _, rfl, rfl, _, rfl, ?_⟩
      rw [lc]
      by_cases hlt : t < is.length
      · refine ifT (decide_eq_true (by exact Int.ofNat_lt.mpr hlt)) ?_
        have hT8 : t < T8.length := by rw [win8.g.good.1]; exact hlt
        obtain ⟨ot, hot⟩ : ∃ ot, T8[t]? = some ot := ⟨_, List.getElem?_eq_getElem hT8⟩
        obtain ⟨vo, hvo, dvo⟩ := d8.getD (i := t) (d := orT ot) (by rw [List.getElem?_map, hot]; rfl)
        have hoc : ∀ a, ot = some a → CanR U sz a := fun a ea => win8.g.good.row (i := t) (by rw [hot, ea])
        have hsz : sz ≤ 1000 := Nat.le_trans k7.s1 (by decide)
        refine ⟨_, rfl, _, rfl, R, rv8, _, vo, rfl, rfl, SqL.of hR8, atI_nat (j := t) hvo, _, rfl, ?_⟩
        refine ⟨vo, vrow, ot, sr, U, sz, rfl, dvo, hrow, hoc, hcr, k7.few, hsz, fun v1 H1 f1 hv1 => ?_⟩
        refine ⟨_, rfl, _, rfl, R, rv8, _, vo, rfl, rfl, SqL.of (f1 _ _ hR8), atI_nat (j := t) hvo, ?_⟩
        have sh1 : SeqAt.shaped (rowT (newR ot sr)) = true := SL.shaped_orT (o := some (newR ot sr)) k7.ok fun r e s hs => by cases e; exact ((SL.newR_can hoc hcr).2 s hs).over
        have sh2 : SeqAt.shaped (orT ot) = true := SL.shaped_orT k7.ok fun r e s hs => ((hoc r e).2 s hs).over
        refine ⟨rowT (newR ot sr), orT ot, dp_q hv1 (SeqAt.canLay_of_shaped sh1), dp_q (dvo.ext f1) (SeqAt.canLay_of_shaped sh2), sh1, sh2, _, rfl, ?_⟩
        have eqq := SL.eqv_orT (some (newR ot sr)) ot
        rw [show PyData.eqv (rowT (newR ot sr)) (orT ot) = decide (some (newR ot sr) = ot) from eqq]
        by_cases hne : some (newR ot sr) = ot
        · refine ifF (by rw [decide_eq_true hne]; rfl) ?_
          exact ⟨e8.trans f1, f1 _ _ hL8, hz8.ext f1, rv8, T8, ln8, _, _, f1 _ _ hR8, d8.ext f1, f1 _ _ hLn8, by rw [etake]; exact win8.same hot hcr hne, hk8, rfl⟩
        · refine ifT (by rw [decide_eq_false hne]; rfl) ?_
          refine ⟨_, rfl, _, rfl, R, rv8, _, vo, rfl, rfl, SqL.of (f1 _ _ hR8), atI_nat (j := t) hvo, _, rfl, ?_⟩
          refine ⟨vo, vrow, ot, sr, U, sz, rfl, dvo.ext f1, hrow.ext f1, hoc, hcr, k7.few, hsz, fun v2 H2 f2 hv2 => ?_⟩
          have f12 := f1.trans f2
          have tl : t < rv8.length := by rw [d8.length, List.length_map]; exact hT8
          refine ⟨_, rfl, _, rfl, R, rv8, _, t, rfl, rfl, f12 _ _ hR8, ?_, ?_⟩
          · unfold L2.ixN
            rw [if_pos (Int.natCast_nonneg _), if_pos (Int.ofNat_lt.mpr tl)]
            rfl
          have n3 : Ln ≠ R := Ne.symm nRL
          have gL : upd H2 R (.lst (rv8.set t v2)) Ln = some (.lst (ln8.map fun (i : Nat) => V.int (i : Int))) := by rw [upd_ne n3]; exact f12 _ _ hLn8
          have pn : SL.pot U sz (T8.set t (some (newR ot sr))) < SL.pot U sz T8 := SL.pot_new win8.g.good hot hcr hne
          refine ⟨_, rfl, .inl ⟨rfl, _, SqL.of gL⟩, _, rfl, Ln, _, _, rfl, rfl, gL, by rw [List.length_map, sizeLine_eq]; omega, ?_⟩
          refine ⟨((e8.trans f12).mut nR).mut nL, ?_, DqAll.mutD gL (DqAll.mutD (f12 _ _ hR8) (hz8.ext f12) (SL.noL_map leadT SL.noL_leadT _)) (SL.noL_map leadT SL.noL_leadT _), rv8.set t v2, T8.set t (some (newR ot sr)), ln8 ++ [t], _, _, ?_, ?_, ?_, ?_, ?_, rfl⟩
          · rw [upd_ne nLLn, upd_ne nLR]
            exact f12 _ _ hL8
          · rw [upd_ne nRL]
            exact upd_same
          · rw [List.map_set]
            exact DqAll.mutD gL (DqAll.setA (DqAll.mutD (f12 _ _ hR8) (d8.ext f12) (SL.noL_map orT SL.noL_orT T8)) (Dq.mutD (f12 _ _ hR8) hv2 (SL.noL_rowT _)) t) (by rw [← List.map_set (f := orT) (a := some (newR ot sr))]; exact SL.noL_map orT SL.noL_orT _)
          · rw [upd_same, List.map_append]
            rfl
          · rw [etake]
            exact win8.step MM hxn hr0 hmem hlt hot
          · rw [List.length_append, List.length_singleton]
            show 2 * SL.pot U sz (T8.set t (some (newR ot sr))) + (ln8.length + 1) < k
            generalize SL.pot U sz (T8.set t (some (newR ot sr))) = p1 at pn ⊢
            omega
      · refine ifF (decide_eq_false (fun h => hlt (Int.ofNat_lt.mp h))) ?_
        exact ⟨e8, hL8, hz8, rv8, T8, ln8, _, _, hR8, d8, hLn8, by rw [etake]; exact win8.skip (Nat.le_of_not_lt hlt), hk8, rfl⟩
    · rintro σ8 H8 ⟨e8, hL8, hz8, rv8, T8, ln8, u6, u7, hR8, d8, hLn8, win8, hk8, rfl⟩
      rw [zl, List.take_length] at win8
      exact ⟨_, hk8, e8, rv8, T8, ln8, _, _, _, hR8, d8, hLn8, win8.fin, rfl, by omega, rfl⟩
end
end K07
set_option Elab.async false
set_option linter.all false
set_option maxRecDepth 100000
set_option maxHeartbeats 0
/-! a part of the heap that holds the data, apart from what is still being changed -/
namespace EX2
open PySem PySem.Spec PyProof.Rows L2
/-- from H to H2 nothing old is changed; the data lies in H0 at first, in H1 at last; what stood in H outside of H0 is outside of H1 -/
structure Ov (H0 H H2 H1 : Hp) : Prop where
  e : Evl.Ex H H2
  s : Evl.Ex H1 H2
  u : Evl.Ex H0 H1
  no : ∀ a, H a ≠ none → H0 a = none → H1 a = none
theorem ex_none {H H' : Hp} {a : Addr} (e : Evl.Ex H H') (h : H' a = none) : H a = none := by
  cases z : H a with
  | none => rfl
  | some o => have := e _ _ z; rw [h] at this; cases this
namespace Ov
variable {H0 H H1 H2 H3 H4 : Hp} {p : Addr} {o : HO}
theorem refl (h : Evl.Ex H0 H) : Ov H0 H H H0 := ⟨Evl.Ex.refl _, h, Evl.Ex.refl _, fun _ _ h => h⟩
theorem trans (a : Ov H0 H H2 H1) (b : Ov H1 H2 H4 H3) : Ov H0 H H4 H3 := ⟨a.e.trans b.e, b.s, a.u.trans b.u, fun x h n => b.no x (fun z => h (ex_none a.e z)) (a.no x h n)⟩
/-- a new object, data -/
theorem new (a : Ov H0 H H2 H1) (h : H2 p = none) : Ov H0 H (upd H2 p o) (upd H1 p o) := by
  have h1 := ex_none a.s h
  have hh := ex_none a.e h
  refine ⟨a.e.trans (Evl.Ex.new h), fun x u hx => ?_, a.u.trans (Evl.Ex.new h1), fun x hx n => ?_⟩
  · by_cases z : x = p
    · subst z; rw [upd_same] at hx ⊢; exact hx
    · rw [upd_ne z] at hx ⊢; exact a.s _ _ hx
  · have z : x ≠ p := fun z => by subst z; exact hx hh
    rw [upd_ne z]
    exact a.no x hx n
/-- a new object, left out -/
theorem out (a : Ov H0 H H2 H1) (h : H2 p = none) : Ov H0 H (upd H2 p o) H1 := ⟨a.e.trans (Evl.Ex.new h), a.s.trans (Evl.Ex.new h), a.u, a.no⟩
/-- more objects, left out -/
theorem more (a : Ov H0 H H2 H1) (e : Evl.Ex H2 H3) : Ov H0 H H3 H1 := ⟨a.e.trans e, a.s.trans e, a.u, a.no⟩
/-- a left out object is changed -/
theorem chg (a : Ov H0 H H2 H1) (h : H p = none) (h1 : H1 p = none) : Ov H0 H (upd H2 p o) H1 := ⟨a.e.mut h, a.s.mut h1, a.u, a.no⟩
/-- a left out object becomes data -/
theorem take (a : Ov H0 H H2 H1) (h : H p = none) (h1 : H1 p = none) (h2 : H2 p = some o) : Ov H0 H H2 (upd H1 p o) := by
  refine ⟨a.e, fun x u hx => ?_, a.u.trans (Evl.Ex.new h1), fun x hx n => ?_⟩
  · by_cases z : x = p
    · subst z; rw [upd_same] at hx; cases hx; exact h2
    · rw [upd_ne z] at hx; exact a.s _ _ hx
  · have z : x ≠ p := fun z => by subst z; exact hx h
    rw [upd_ne z]
    exact a.no x hx n
end Ov
/-- promises that keep to a part of the heap -/
abbrev Pr (H : Hp) (H0 : Hp) (d : PyData) (Q : VK) : Prop := ∀ v H2 H1, Ov H0 H H2 H1 → Dq H1 v d → Q v H2
end EX2
set_option Elab.async false
set_option linter.all false
set_option maxRecDepth 100000
set_option maxHeartbeats 0
namespace K07
open PySem PySem.Spec PyProof.Rows L2 EX2 TX
open SL (setT rowT orT setL rowL orL jS jR CanS CanR newR Ins Wf dN leadT)
abbrev slbegin : Stmt := top 44
def spLBegin (K : PySem.W.Frag) : Sp := fun vs H Q _ => ∃ (o : Str) (m : V) (pl : List Str) (sz : Nat) (is : List Ins), vs = [.str o, m] ∧ MAt K H m pl sz is ∧ 1 + pl.length ≤ sz ∧ sz ≤ 1000 ∧ ∀ v H', Evl.Ex H H' → Dq H' v (rowL (beginR o pl sz)) → Q v H'
section
variable {P : Program} {w : World} {K : PySem.W.Frag} {mg : Str → Option Value} {base : Heap} {f : Addr} {fd : FuncData}
abbrev nlbegin : List Str := ["_law_owner", "_law_method_here", "_law_row", "_law_kind"]
abbrev plbegin : List Str := ["_law_owner", "_law_method_here"]
theorem sclbegin : FnScope nlbegin plbegin (defScope slbegin) := ⟨rfl, rfl, rfl, by decide +kernel, rfl, by decide +kernel, by decide +kernel⟩
theorem ok_lbegin (F : FnP K "_law_begin" slbegin f fd) (T : Txt K mg) (G : MGet P w K mg base) : FnOk P w K mg base CX0 3 f fd plbegin (spLBegin K) := by
  obtain ⟨p2, fd2, G2, b2⟩ := G.g2
  obtain ⟨p4, fd4, G4, b4⟩ := G.g4
  have M := G.M
  refine F.ok sclbegin (fun vs H Q E h => ?_) (fun cdv A outer s H vs Q E hr h => ?_)
  · obtain ⟨o, m, pl, sz, is, rfl, _⟩ := h
    rfl
  · obtain ⟨o, m, pl, sz, is, rfl, hm, hz, h10, hQ⟩ := h
    refine ⟨_, PSs.nox (pss_cons (ps_set (i := 2) sclbegin.nd rfl (Or.inl rfl) (pe_op op_cat (pe_lst (pa_cons (pe_lst (pa_cons (pv 0) pa_nil)) pa_nil)) (pe_lc (own := [("_law_kind", 3)]) (g := gName 3) (tt := tYes) rfl sclbegin.nd (pi_tup (pe_prop (pv 1) M.cl p2 G2 (hr.mono (by decide)) b2 .nil pass0 rfl)) (blkOk_by (N := nlbegin) (sc := defScope slbegin) (by decide +kernel)) (fun _ _ _ _ _ => (pg_name (i := 3) sclbegin.nd rfl (Or.inl rfl))) (fun _ _ _ _ _ => pts_nil) (fun _ _ _ _ _ => (pe_lst (pa_cons (pv 3) pa_nil))))))
      (pss_one (ps_ret (pe_op op_cat (pv 2) (pe_op op_rep (pe_lst (pa_cons pe_non pa_nil)) (pe_op op_sub (pe_prop (pv 1) M.cl p4 G4 (hr.mono (by decide)) b4 .nil pass0 rfl) (pe_callB call_len rfl T.len boot_len (pa_cons (pv 2) pa_nil)))))))), ?_⟩
    obtain ⟨x, dx, n, p, r, c, rfl, hx, hp, hc⟩ := hm.ex
    obtain ⟨pa, ps, rfl, hpa, hall⟩ := hp.tupI
    rw [strsV hall] at hpa
    refine ⟨_, rfl, le_line (by simp), fun p1 h1 => ⟨le_line (by simp), fun q1 g1 => ?_⟩⟩
    have e1 := Evl.Ex.new (o := .lst [.str o]) h1
    have e2 := Evl.Ex.new (o := .lst [.ref p1]) g1
    have e12 := e1.trans e2
    refine ⟨_, rfl, x, dx, _, rfl, e12 _ _ hx, x, dx, _, .ref pa, rfl, e12 _ _ hx, rfl, pa, rfl, ⟨_, SqT.of (e12 _ _ hpa)⟩, fun D1 hD1 => ?_⟩
    refine lc_rm (walk_tup (xs := pl.map V.str)) hD1 (fun H' e => SqT.of ((e12.trans e) _ _ hpa)) (fun j => setL (some [pl.getD j Str.empty])) (by rw [List.length_map]; omega) (fun j H2 x H3 _ _ y => by rw [y.1]; exact Evl.Ex.refl _) ?_ ?_
    · rintro j y H2 H3 acc hj e3 e4 hD3 ⟨rfl, hy⟩ Qt hQt
      rw [List.getElem?_map] at hy
      obtain ⟨k, hk, rfl⟩ : ∃ k, pl[j]? = some k ∧ y = .str k := by
        cases z : pl[j]? with
        | none => rw [z] at hy; cases hy
        | some k => rw [z] at hy; exact ⟨k, rfl, (Option.some.inj hy).symm⟩
      refine ⟨rfl, _, rfl, le_line (by simp), fun p3 h3 => ?_⟩
      have e5 := Evl.Ex.new (o := .lst [.str k]) h3
      refine hQt _ _ e5 ?_
      have eg : pl.getD j Str.empty = k := by rw [List.getD_eq_getElem?_getD, hk]; rfl
      rw [eg]
      have nD : p3 ≠ D1 := by rintro rfl; rw [hD3] at h3; cases h3
      exact .lst (by rw [rm_ne nD]; exact upd_same) (.cons (.str k) .nil)
    · intro H3 zs e3 hD3 hz3
      rw [List.length_map] at hz3
      have ed : (List.range pl.length).map (fun j => setL (some [pl.getD j Str.empty])) = pl.map fun k => setL (some [k]) :=
        map_range_get pl _ _ fun i k e => by rw [List.getD_eq_getElem?_getD, e]; rfl
      rw [ed] at hz3
      have lz : zs.length = pl.length := by rw [DqAll.length hz3, List.length_map]
      refine ⟨q1, D1, [.ref p1], zs, rfl, rfl, e3 _ _ upd_same, hD3, by simp; rw [lz]; exact le_line (by omega), fun q2 g2 => ?_⟩
      have e4 := Evl.Ex.new (o := .lst ([.ref p1] ++ zs)) g2
      have e04 := (e12.trans e3).trans e4
      refine ⟨_, rfl, le_line (by simp), fun q3 g3 => ?_⟩
      have e5 := Evl.Ex.new (o := .lst [.non]) g3
      have e05 := e04.trans e5
      refine ⟨_, rfl, x, dx, _, rfl, e05 _ _ hx, x, dx, _, .int (sz : Int), rfl, e05 _ _ hx, rfl, ?_⟩
      have hq2 : ∀ {H' : Hp}, Evl.Ex (upd H3 q2 (.lst ([.ref p1] ++ zs))) H' → H' q2 = some (.lst ([.ref p1] ++ zs)) := fun e => e _ _ upd_same
      refine ⟨_, rfl, _, _, rfl, .inl ⟨_, SqL.of (hq2 e5), rfl⟩, _, _, rfl, rfl, ?_⟩
      have ek : ((sz : Int) - (([V.ref p1] ++ zs).length : Int)).toNat = sz - (1 + pl.length) := by simp; omega
      refine ⟨q3, _, [.non], rfl, rfl, upd_same, by simp; omega, by simp; omega, ?_, fun q4 g4 => ?_⟩
      · rw [ek]; simp; have := le_line h10; omega
      have e6 := Evl.Ex.new (o := .lst (List.replicate ((sz : Int) - (([V.ref p1] ++ zs).length : Int)).toNat [V.non]).flatten) g4
      have er : (List.replicate ((sz : Int) - (([V.ref p1] ++ zs).length : Int)).toNat [V.non]).flatten = List.replicate (sz - (1 + pl.length)) V.non := by
        rw [ek, flat_nones]
      rw [er] at e6 ⊢
      refine ⟨q2, q4, _, _, rfl, rfl, hq2 (e5.trans e6), upd_same, ?_, fun q5 g5 => ?_⟩
      · rw [List.length_append, List.length_replicate, lz]; simp; exact le_line (by omega)
      have e7 := Evl.Ex.new (o := .lst ([V.ref p1] ++ zs ++ List.replicate (sz - (1 + pl.length)) V.non)) g5
      have e38 := ((e4.trans e5).trans e6).trans e7
      refine hQ _ _ (e04.trans ((e5.trans e6).trans e7)) (.lst upd_same ?_)
      have d1 : Dq (upd H p1 (.lst [.str o])) (.ref p1) (setL (some [o])) := .lst upd_same (.cons (.str o) .nil)
      have d2 := DqAll.ext rm_ex hz3
      unfold beginR
      rw [List.map_append, List.map_cons, List.map_map, List.map_replicate]
      refine DqAll.app (DqAll.app (xs := [_]) (ds := [_]) (.cons (d1.ext ((e2.trans e3).trans e38)) .nil) (DqAll.ext e38 d2)) ?_
      exact nonesD _ _
end
end K07
set_option Elab.async false
set_option linter.all false
set_option maxRecDepth 100000
set_option maxHeartbeats 0
namespace K07
open PySem PySem.Spec PyProof.Rows L2 EX2 TX
open SL (setT rowT orT setL rowL orL jS jR CanS CanR newR Ins Wf dN leadT)
abbrev slset : Stmt := top 45
/-- raw sets as canonical ones -/
def cS (s : Option (List Str)) : Option (List Str) := s.map canon
theorem cS1 (c : Str) : cS (some [c]) = some [c] := congrArg some (canon_of (List.pairwise_singleton _ _))
theorem cS_can {U : List Str} {s : Option (List Str)} (h : CanS U s) : cS s = s := by
  cases s with
  | none => rfl
  | some l => exact congrArg some (canon_of (h l rfl).1)
/-- raw sets: of U, not long -/
def OvR (U : List Str) (s : Option (List Str)) : Prop := ∀ l, s = some l → l.length ≤ 64 ∧ ∀ k ∈ l, k ∈ U
theorem CanS.ovr {U : List Str} {s : Option (List Str)} (h : CanS U s) (hU : U.length < 64) : OvR U s := fun l e => ⟨Nat.le_trans (SL.nodup_len l U (h l e).1.nodup (h l e).2) (Nat.le_of_lt hU), (h l e).2⟩
theorem ov1 {U : List Str} {c : Str} (h : c ∈ U) : OvR U (some [c]) := fun l e => by cases e; exact ⟨by simp, fun k hk => by rw [List.mem_singleton.mp hk]; exact h⟩
/-- what a law's world must be: names of U -/
structure OkW (U : List Str) : Prop where
  ok : SL.OkU U
  el : ∀ z ∈ U, ∀ y, SL.elem z = some y → y ∈ U
  few : U.length < 64
def spLSet : Sp := fun vs H Q _ => ∃ (H0 : Hp) (x y : V) (i : Ins) (r : Rw) (U : List Str) (m : Nat), vs = [x, y] ∧ Evl.Ex H0 H ∧ Dq H0 x i.data ∧ Dq H0 y (rowL r) ∧ CanR U m r ∧ Wf U m i ∧ IsMade i = true ∧ OkW U ∧
  ∀ (s : Option (List Str)) v H2 H1, Ov H0 H H2 H1 → Dq H1 v (setL s) → cS s = SL.made r i → OvR U s → Q v H2
section
variable {P : Program} {w : World} {K : PySem.W.Frag} {mg : Str → Option Value} {base : Heap} {f : Addr} {fd : FuncData}
abbrev nlset : List Str := ["_law_instruction", "_law_row", "_law_word", "_law_found", "_law_kind"]
abbrev plset : List Str := ["_law_instruction", "_law_row"]
theorem sclset : FnScope nlset plset (defScope slset) := ⟨rfl, rfl, rfl, by decide +kernel, rfl, by decide +kernel, by decide +kernel⟩
theorem ok_lset (F : FnP K "_law_set_of" slset f fd) : FnOk P w K mg base CX0 1 f fd plset spLSet := by
  refine F.ok sclset (fun vs H Q E h => ?_) (fun cdv A outer s H vs Q E hr h => ?_)
  · obtain ⟨H0, x, y, i, r, U, m, rfl, _⟩ := h
    rfl
  · obtain ⟨H0, x, y, i, r, U, m, rfl, hu, hx, hy, cr, wf, hm, ⟨oU, hel, hU⟩, hQ⟩ := h
    refine ⟨_, PSs.nox (pss_cons (ps_set (i := 2) sclset.nd rfl (Or.inl rfl) (pe_ix ix_tup (pv 0) pe_int (fun _ _ => rfl)))
      (pss_cons (ps_if (pt_cmpR op_in_seq (pv 2) (pe_lst (pa_cons pe_str (pa_cons pe_str pa_nil))) (by rfl))
        (pss_one (ps_ret (pe_lst (pa_cons (pe_ix ix_tup (pv 0) (pe_un un_neg pe_int) (fun _ _ => rfl)) pa_nil))))
        pss_nil)
      (pss_cons (ps_if (pt_cmpR op_eq (pv 2) pe_str (nomark _))
        (pss_one (ps_ret (pe_lst (pa_cons (pe_op op_add_str (pe_ix ix_tup (pv 0) pe_int (fun _ _ => rfl)) pe_str) pa_nil))))
        pss_nil)
      (pss_cons (ps_if (pt_cmpR op_eq (pv 2) pe_str (nomark _))
        (pss_one (ps_ret (pe_lst pa_nil)))
        pss_nil)
      (pss_cons (ps_if (pt_cmpR op_eq (pv 2) pe_str (nomark _))
        (pss_one (ps_ret (pe_ix ix_list (pv 1) (pe_ix ix_tup (pv 0) pe_int (fun _ _ => rfl)) (fun _ _ => rfl))))
        pss_nil)
      (pss_cons (ps_if (pt_cmpR op_eq (pv 2) pe_str (nomark _))
        (pss_one (ps_ret (pe_lst (pa_cons (pe_ix ix_tup (pv 0) pe_int (fun _ _ => rfl)) pa_nil))))
        pss_nil)
      (pss_cons (ps_if (pt_cmpR op_eq (pv 2) pe_str (nomark _))
        (pss_cons (ps_set (i := 3) sclset.nd rfl (Or.inl rfl) (pe_ix ix_list (pv 1) (pe_ix ix_tup (pv 0) pe_int (fun _ _ => rfl)) (fun _ _ => rfl)))
        (pss_one (ps_ret (pe_ifExp (pt_cmpR op_isN (pv 3) pe_non (nomark _)) pe_non (pe_lc (own := [("_law_kind", 4)]) (g := gName 4) rfl sclset.nd (pi_list (pv 3)) (blkOk_by (N := nlset) (sc := defScope slset) (by decide +kernel)) (fun _ _ _ _ _ => (pg_name (i := 4) sclset.nd rfl (Or.inl rfl))) (fun _ _ _ _ _ => (pts_one (pt_cmpR op_eq (pe_slice sl_str (pv 4) (po_some (pe_un un_neg pe_int)) po_none) pe_str (nomark _)))) (fun _ _ _ _ _ => (pe_slice sl_str (pv 4) po_none (po_some (pe_un un_neg pe_int)))))))))
        pss_nil)
      (pss_one (ps_ret (pe_lst (pa_cons (pe_ix ix_tup (pv 0) pe_int (fun _ _ => rfl)) pa_nil))))))))))), ?_⟩
    obtain ⟨b, ys, rfl, hb, hallY⟩ := Dq.lstI (show Dq H0 y (.list (r.map setL)) from hy)
    have hb0 := hu _ _ hb
    have atR : ∀ k, k < m → ∃ v, ys[k]? = some v ∧ Dq H0 v (setL (r.getD k none)) := fun k hk => by
      have hk' : k < r.length := by rw [cr.1]; exact hk
      obtain ⟨v, h1, h2⟩ := hallY.mapGetD (List.getElem?_eq_getElem hk')
      refine ⟨v, h1, ?_⟩
      rw [List.getD_eq_getElem?_getD, List.getElem?_eq_getElem hk']
      exact h2
    have one : ∀ (z : Str) (H1 : Hp) (p : Addr), Dq (upd H1 p (.lst [.str z])) (.ref p) (setL (some [z])) := fun z H1 p => .lst upd_same (.cons (.str z) .nil)
    cases i with
    | new d c =>
      obtain ⟨a, rfl, ha⟩ := SL.iv_new hx
      have ha0 := hu _ _ ha
      refine ⟨_, rfl, _, _, _, _, rfl, rfl, SqT.of ha0, atI_nat (j := 0) rfl, ?_⟩
      refine ⟨_, rfl, le_line (by simp), fun p1 h1 => ⟨p1, _, rfl, .inl (SqL.of upd_same), rfl, rfl, _, rfl, ifT (by decide +kernel) ?_⟩⟩
      have v1 := (Ov.refl hu).out (o := .lst [.str "new", .str "cast"]) h1
      have ha1 := v1.e _ _ ha0
      refine ⟨_, rfl, _, rfl, ⟨a, _, _, .str c, rfl, rfl, SqT.of ha1, rfl, ?_⟩⟩
      exact ⟨le_line (by simp), fun p hp => hQ (some [c]) _ _ _ (v1.new hp) (one _ _ _) (cS1 _) (ov1 wf.2)⟩
    | cast d e c =>
      obtain ⟨a, rfl, ha⟩ := SL.iv_cast hx
      have ha0 := hu _ _ ha
      refine ⟨_, rfl, _, _, _, _, rfl, rfl, SqT.of ha0, atI_nat (j := 0) rfl, ?_⟩
      refine ⟨_, rfl, le_line (by simp), fun p1 h1 => ⟨p1, _, rfl, .inl (SqL.of upd_same), rfl, rfl, _, rfl, ifT (by decide +kernel) ?_⟩⟩
      have v1 := (Ov.refl hu).out (o := .lst [.str "new", .str "cast"]) h1
      have ha1 := v1.e _ _ ha0
      refine ⟨_, rfl, _, rfl, ⟨a, _, _, .str c, rfl, rfl, SqT.of ha1, rfl, ?_⟩⟩
      exact ⟨le_line (by simp), fun p hp => hQ (some [c]) _ _ _ (v1.new hp) (one _ _ _) (cS1 _) (ov1 wf.2.2)⟩
    | array d c k =>
      obtain ⟨a, rfl, ha⟩ := SL.iv_array hx
      have ha0 := hu _ _ ha
      refine ⟨_, rfl, _, _, _, _, rfl, rfl, SqT.of ha0, atI_nat (j := 0) rfl, ?_⟩
      refine ⟨_, rfl, le_line (by simp), fun p1 h1 => ⟨p1, _, rfl, .inl (SqL.of upd_same), rfl, rfl, _, rfl, ifF (by decide +kernel) ?_⟩⟩
      have v1 := (Ov.refl hu).out (o := .lst [.str "new", .str "cast"]) h1
      have ha1 := v1.e _ _ ha0
      refine ⟨_, rfl, rfl, _, rfl, ifT (by decide +kernel) ?_⟩
      have hz := (oU _ wf.2).2
      refine ⟨_, rfl, _, _, _, _, rfl, rfl, SqT.of ha1, atI_nat (j := 2) rfl, _, _, rfl, rfl, ?_, ?_⟩
      · exact le_line (by rw [← strAppend_length]; exact hz)
      exact ⟨le_line (by simp), fun p hp => hQ (some [_]) _ _ _ (v1.new hp) (one _ _ _) (cS1 _) (ov1 wf.2)⟩
    | null d =>
      obtain ⟨a, rfl, ha⟩ := SL.iv_null hx
      have ha0 := hu _ _ ha
      refine ⟨_, rfl, _, _, _, _, rfl, rfl, SqT.of ha0, atI_nat (j := 0) rfl, ?_⟩
      refine ⟨_, rfl, le_line (by simp), fun p1 h1 => ⟨p1, _, rfl, .inl (SqL.of upd_same), rfl, rfl, _, rfl, ifF (by decide +kernel) ?_⟩⟩
      have v1 := (Ov.refl hu).out (o := .lst [.str "new", .str "cast"]) h1
      have ha1 := v1.e _ _ ha0
      refine ⟨_, rfl, rfl, _, rfl, ifF (by decide +kernel) ?_⟩
      refine ⟨_, rfl, rfl, _, rfl, ifT (by decide +kernel) ?_⟩
      exact ⟨le_line (by simp), fun p hp => hQ (some []) _ _ _ (v1.new hp) (.lst upd_same .nil) rfl (fun l e => by cases e; exact ⟨by simp, fun k hk => nomatch hk⟩)⟩
    | move d e =>
      obtain ⟨a, rfl, ha⟩ := SL.iv_move hx
      have ha0 := hu _ _ ha
      refine ⟨_, rfl, _, _, _, _, rfl, rfl, SqT.of ha0, atI_nat (j := 0) rfl, ?_⟩
      refine ⟨_, rfl, le_line (by simp), fun p1 h1 => ⟨p1, _, rfl, .inl (SqL.of upd_same), rfl, rfl, _, rfl, ifF (by decide +kernel) ?_⟩⟩
      have v1 := (Ov.refl hu).out (o := .lst [.str "new", .str "cast"]) h1
      have ha1 := v1.e _ _ ha0
      refine ⟨_, rfl, rfl, _, rfl, ifF (by decide +kernel) ?_⟩
      refine ⟨_, rfl, rfl, _, rfl, ifF (by decide +kernel) ?_⟩
      refine ⟨_, rfl, rfl, _, rfl, ifT (by decide +kernel) ?_⟩
      obtain ⟨v, hv, hd⟩ := atR e wf.2
      refine ⟨_, rfl, _, rfl, _, _, _, _, rfl, rfl, SqT.of ha1, atI_nat (j := 2) rfl, _, _, _, v, rfl, rfl, SqL.of (v1.e _ _ hb0), atI_nat (j := e) hv, ?_⟩
      exact hQ (r.getD e none) _ _ _ v1 hd (cS_can (SL.canG cr e)) (CanS.ovr (SL.canG cr e) hU)
    | get d e c f t =>
      obtain ⟨a, rfl, ha⟩ := SL.iv_get hx
      have ha0 := hu _ _ ha
      refine ⟨_, rfl, _, _, _, _, rfl, rfl, SqT.of ha0, atI_nat (j := 0) rfl, ?_⟩
      refine ⟨_, rfl, le_line (by simp), fun p1 h1 => ⟨p1, _, rfl, .inl (SqL.of upd_same), rfl, rfl, _, rfl, ifF (by decide +kernel) ?_⟩⟩
      have v1 := (Ov.refl hu).out (o := .lst [.str "new", .str "cast"]) h1
      have ha1 := v1.e _ _ ha0
      refine ⟨_, rfl, rfl, _, rfl, ifF (by decide +kernel) ?_⟩
      refine ⟨_, rfl, rfl, _, rfl, ifF (by decide +kernel) ?_⟩
      refine ⟨_, rfl, rfl, _, rfl, ifF (by decide +kernel) ?_⟩
      refine ⟨_, rfl, rfl, _, rfl, ifT (by decide +kernel) ?_⟩
      refine ⟨_, rfl, _, _, _, _, rfl, rfl, SqT.of ha1, atI_nat (j := 5) rfl, ?_⟩
      exact ⟨le_line (by simp), fun p hp => hQ (some [_]) _ _ _ (v1.new hp) (one _ _ _) (cS1 _) (ov1 wf.2.2)⟩
    | load d e k =>
      obtain ⟨a, rfl, ha⟩ := SL.iv_load hx
      have ha0 := hu _ _ ha
      refine ⟨_, rfl, _, _, _, _, rfl, rfl, SqT.of ha0, atI_nat (j := 0) rfl, ?_⟩
      refine ⟨_, rfl, le_line (by simp), fun p1 h1 => ⟨p1, _, rfl, .inl (SqL.of upd_same), rfl, rfl, _, rfl, ifF (by decide +kernel) ?_⟩⟩
      have v1 := (Ov.refl hu).out (o := .lst [.str "new", .str "cast"]) h1
      have ha1 := v1.e _ _ ha0
      refine ⟨_, rfl, rfl, _, rfl, ifF (by decide +kernel) ?_⟩
      refine ⟨_, rfl, rfl, _, rfl, ifF (by decide +kernel) ?_⟩
      refine ⟨_, rfl, rfl, _, rfl, ifF (by decide +kernel) ?_⟩
      refine ⟨_, rfl, rfl, _, rfl, ifF (by decide +kernel) ?_⟩
      refine ⟨_, rfl, rfl, _, rfl, ifT (by decide +kernel) ?_⟩
      obtain ⟨v, hv, hd⟩ := atR e wf.2
      refine ⟨_, rfl, _, rfl, _, _, _, _, rfl, rfl, SqT.of ha1, atI_nat (j := 2) rfl, _, _, _, v, rfl, rfl, SqL.of (v1.e _ _ hb0), atI_nat (j := e) hv, ?_⟩
      refine ⟨_, rfl, rfl, _, rfl, ?_⟩
      have cE := SL.canG cr e
      have eM : SL.made r (.load d e k) = SL.elems (r.getD e none) := rfl
      rw [eM] at hQ
      generalize r.getD e none = sE at hd cE hQ
      cases sE with
      | none =>
        cases hd
        exact isN_non (hQ none _ _ _ v1 .non rfl (fun l e => nomatch e))
      | some l =>
        obtain ⟨pa, hs, rfl, hpa, hallP⟩ := Dq.lstI (show Dq H0 v (.list (l.map .str)) from hd)
        rw [strsV hallP] at hpa
        have hpa1 := v1.s _ _ hpa
        refine isN_ref ⟨_, rfl, pa, rfl, ⟨_, SqL.of hpa1⟩, fun D1 hD1 => ?_⟩
        refine lc_it (walk_list (xs := l.map V.str)) (fun j H' => Evl.Ex (upd H p1 (.lst [.str "new", .str "cast"])) H' ∧ H' D1 = some (.lst (((l.take j).filterMap SL.elem).map V.str))) ⟨Evl.Ex.new hD1, upd_same⟩ (fun j H' _ h => SqL.of (h.1 _ _ hpa1)) ?_ ?_
        · rintro j y H5 H6 hj ⟨e5, hd5⟩ ⟨rfl, hy⟩
          rw [List.getElem?_map] at hy
          obtain ⟨z, hz, rfl⟩ : ∃ z, l[j]? = some z ∧ y = .str z := by
            cases q : l[j]? with
            | none => rw [q] at hy; cases hy
            | some z => rw [q] at hy; exact ⟨z, rfl, (Option.some.inj hy).symm⟩
          have hzU := (cE l rfl).2 z (List.mem_of_getElem? hz)
          have tk : (l.take (j + 1)).filterMap SL.elem = (l.take j).filterMap SL.elem ++ (SL.elem z).toList := by
            rw [List.take_succ, hz, List.filterMap_append]
            exact congrArg _ (fm_one _ _)
          have hlz : z.length ≤ 1000 := (oU z hzU).2
          have lt : ((l.take j).filterMap SL.elem).length ≤ 64 := Nat.le_trans (List.length_filterMap_le _ _) (Nat.le_trans (by rw [List.length_take]; exact Nat.min_le_right _ _) (CanS.ovr cE hU l rfl).1)
          refine ⟨rfl, _, rfl, _, rfl, _, rfl, z, rfl, le_line hlz, rfl, ?_⟩
          refine ⟨SL.eb z, congrArg V.bl (arr_iff z), ?_⟩
          cases hb : SL.eb z with
          | true =>
            have he : SL.elem z = some (SL.c2 z) := by unfold SL.elem; rw [if_pos hb]
            refine ifT rfl ?_
            refine ⟨_, rfl, _, rfl, _, rfl, z, rfl, le_line hlz, _, hd5, by rw [List.length_map]; exact Nat.lt_of_le_of_lt lt (by decide), e5.mut hD1, ?_⟩
            rw [upd_same, tk, he, List.map_append]
            rfl
          | false =>
            have he : SL.elem z = none := by unfold SL.elem; rw [if_neg (by rw [hb]; exact Bool.false_ne_true)]
            refine ifF rfl ⟨e5, ?_⟩
            rw [tk, he, Option.toList_none, List.append_nil]
            exact hd5
        · rintro H5 ⟨e5, hd5⟩
          rw [List.length_map, List.take_length] at hd5
          have nD := ex_none (Evl.Ex.new h1) hD1
          have nD0 := ex_none hu nD
          refine hQ (some (l.filterMap SL.elem)) _ _ _ ((v1.more e5).take nD nD0 hd5) (.lst upd_same (strsD _ _)) rfl (fun l' e' => ?_)
          cases e'
          refine ⟨Nat.le_trans (List.length_filterMap_le _ _) (CanS.ovr cE hU l rfl).1, fun k hk => ?_⟩
          obtain ⟨z, hz, e⟩ := List.mem_filterMap.mp hk
          exact hel z ((cE l rfl).2 z hz) k e
    | call d e c f ks t as =>
      obtain ⟨a, v5, v7, rfl, ha, _, _⟩ := SL.iv_call hx
      have ha0 := hu _ _ ha
      refine ⟨_, rfl, _, _, _, _, rfl, rfl, SqT.of ha0, atI_nat (j := 0) rfl, ?_⟩
      refine ⟨_, rfl, le_line (by simp), fun p1 h1 => ⟨p1, _, rfl, .inl (SqL.of upd_same), rfl, rfl, _, rfl, ifF (by decide +kernel) ?_⟩⟩
      have v1 := (Ov.refl hu).out (o := .lst [.str "new", .str "cast"]) h1
      have ha1 := v1.e _ _ ha0
      refine ⟨_, rfl, rfl, _, rfl, ifF (by decide +kernel) ?_⟩
      refine ⟨_, rfl, rfl, _, rfl, ifF (by decide +kernel) ?_⟩
      refine ⟨_, rfl, rfl, _, rfl, ifF (by decide +kernel) ?_⟩
      refine ⟨_, rfl, rfl, _, rfl, ifF (by decide +kernel) ?_⟩
      refine ⟨_, rfl, rfl, _, rfl, ifF (by decide +kernel) ?_⟩
      refine ⟨_, rfl, _, _, _, _, rfl, rfl, SqT.of ha1, atI_nat (j := 6) rfl, ?_⟩
      exact ⟨le_line (by simp), fun p hp => hQ (some [_]) _ _ _ (v1.new hp) (one _ _ _) (cS1 _) (ov1 wf.2.2)⟩
    | ask d e c f ks t as =>
      obtain ⟨a, v5, v7, rfl, ha, _, _⟩ := SL.iv_ask hx
      have ha0 := hu _ _ ha
      refine ⟨_, rfl, _, _, _, _, rfl, rfl, SqT.of ha0, atI_nat (j := 0) rfl, ?_⟩
      refine ⟨_, rfl, le_line (by simp), fun p1 h1 => ⟨p1, _, rfl, .inl (SqL.of upd_same), rfl, rfl, _, rfl, ifF (by decide +kernel) ?_⟩⟩
      have v1 := (Ov.refl hu).out (o := .lst [.str "new", .str "cast"]) h1
      have ha1 := v1.e _ _ ha0
      refine ⟨_, rfl, rfl, _, rfl, ifF (by decide +kernel) ?_⟩
      refine ⟨_, rfl, rfl, _, rfl, ifF (by decide +kernel) ?_⟩
      refine ⟨_, rfl, rfl, _, rfl, ifF (by decide +kernel) ?_⟩
      refine ⟨_, rfl, rfl, _, rfl, ifF (by decide +kernel) ?_⟩
      refine ⟨_, rfl, rfl, _, rfl, ifF (by decide +kernel) ?_⟩
      refine ⟨_, rfl, _, _, _, _, rfl, rfl, SqT.of ha1, atI_nat (j := 6) rfl, ?_⟩
      exact ⟨le_line (by simp), fun p hp => hQ (some [_]) _ _ _ (v1.new hp) (one _ _ _) (cS1 _) (ov1 wf.2.2)⟩
    | put _ _ _ _ _ => cases hm
    | store _ _ _ => cases hm
    | jump _ => cases hm
    | ifnull _ _ => cases hm
    | ifis _ _ _ => cases hm
    | choose _ => cases hm
    | tell _ => cases hm
    | ret _ => cases hm
end
end K07
set_option Elab.async false
set_option linter.all false
set_option maxRecDepth 100000
set_option maxHeartbeats 0
namespace K07
open PySem PySem.Spec PyProof.Rows L2 EX2 TX
open SL (setT rowT orT setL rowL orL jS jR CanS CanR newR Ins Wf dN leadT)
abbrev slnext : Stmt := top 46
def leadL (p : Nat × Rw) : PyData := .tuple [dN p.1, rowL p.2]
/-- raw rows as canonical ones -/
def cR (r : Rw) : Rw := r.map cS
theorem cR_can {U : List Str} {m : Nat} {r : Rw} (h : CanR U m r) : cR r = r := by
  unfold cR
  have : ∀ s ∈ r, cS s = s := fun s hs => cS_can (h.2 s hs)
  exact (List.map_congr_left this).trans (List.map_id' r)
theorem cR_set (r : Rw) (s : Option (List Str)) (d : Nat) : cR (r.set d s) = (cR r).set d (cS s) := List.map_set
def OvW (U : List Str) (r : Rw) : Prop := ∀ s ∈ r, OvR U s
theorem CanR.ovw {U : List Str} {m : Nat} {r : Rw} (h : CanR U m r) (hU : U.length < 64) : OvW U r := fun s hs => CanS.ovr (h.2 s hs) hU
theorem OvW.set {U : List Str} {r : Rw} (h : OvW U r) {s : Option (List Str)} (hs : OvR U s) (d : Nat) : OvW U (r.set d s) := fun t ht => (List.mem_or_eq_of_mem_set ht).elim (h t) fun e => e ▸ hs
def spLNext : Sp := fun vs H Q _ => ∃ (H0 : Hp) (xc xr : V) (is : List Ins) (x : Nat) (i : Ins) (r : Rw) (U : List Str) (m : Nat), vs = [xc, .int x, xr] ∧ Evl.Ex H0 H ∧ Dq H0 xc (.tuple (is.map Ins.data)) ∧ is[x]? = some i ∧ Dq H0 xr (rowL r) ∧ CanR U m r ∧ m ≤ 1000 ∧ Wf U m i ∧ OkW U ∧
  ∀ (ls : List (Nat × Rw)) v H2 H1, Ov H0 H H2 H1 → Dq H1 v (.list (ls.map leadL)) → ls.map (fun p => (p.1, cR p.2)) = SL.lead x r i → (∀ p ∈ ls, OvW U p.2) → Q v H2
section
variable {P : Program} {w : World} {K : PySem.W.Frag} {mg : Str → Option Value} {base : Heap} {f : Addr} {fd : FuncData}
abbrev nlnext : List Str := ["_law_code", "_law_at", "_law_row", "_law_instruction", "_law_word", "_law_later"]
abbrev plnext : List Str := ["_law_code", "_law_at", "_law_row"]
theorem sclnext : FnScope nlnext plnext (defScope slnext) := ⟨rfl, rfl, rfl, by decide +kernel, rfl, by decide +kernel, by decide +kernel⟩
theorem ok_lnext (F : FnP K "_law_next" slnext f fd) (T : Txt K mg) {fS : Addr} {fdS : FuncData} (FS : FnP K "_law_set_of" slset fS fdS) (gS : mg "_law_set_of" = some (.ref fS)) : FnOk P w K mg base CX0 2 f fd plnext spLNext := by
  have GS : FnOk P w K mg base CX0 1 fS fdS plset spLSet := ok_lset FS
  have bS : Binds K fdS plset [] := FS.bindsN fun _ _ _ _ _ _ us hl => match us, hl with | [_, _], _ => rfl
  refine F.ok sclnext (fun vs H Q E h => ?_) (fun cdv A outer s H vs Q E hr h => ?_)
  · obtain ⟨H0, xc, xr, is, x, i, r, U, m, rfl, _⟩ := h
    rfl
  · obtain ⟨H0, xc, xr, is, x, i, r, U, m, rfl, hu, hxc, hi, hxr, cr, hm, wf, ow, hQ⟩ := h
    refine ⟨_, PSs.nox (pss_cons (ps_set (i := 3) sclnext.nd rfl (Or.inl rfl) (pe_ix ix_tup (pv 0) (pv 1) (fun _ _ => rfl)))
      (pss_cons (ps_set (i := 4) sclnext.nd rfl (Or.inl rfl) (pe_ix ix_tup (pv 3) pe_int (fun _ _ => rfl)))
      (pss_cons (ps_if (pt_cmpR op_in_seq (pv 4) (pe_lst (pa_cons pe_str (pa_cons pe_str pa_nil))) (by rfl))
        (pss_one (ps_ret (pe_ifExp (pt_cmpR op_eq (pv 4) pe_str (nomark _)) (pe_lst pa_nil) (pe_lst (pa_cons (pe_tup (pa_cons (pe_ix ix_tup (pv 3) pe_int (fun _ _ => rfl)) (pa_cons (pv 2) pa_nil))) pa_nil)))))
        pss_nil)
      (pss_cons (ps_if (pt_cmpR op_in_seq (pv 4) (pe_lst (pa_cons pe_str (pa_cons pe_str (pa_cons pe_str pa_nil)))) (by rfl))
        (pss_one (ps_ret (pe_lst (pa_cons (pe_tup (pa_cons (pe_op op_add (pv 1) pe_int) (pa_cons (pv 2) pa_nil))) pa_nil))))
        pss_nil)
      (pss_cons (ps_if (pt_cmpR op_eq (pv 4) pe_str (nomark _))
        (pss_one (ps_ret (pe_lst (pa_cons (pe_tup (pa_cons (pe_op op_add (pv 1) pe_int) (pa_cons (pv 2) pa_nil))) (pa_cons (pe_tup (pa_cons (pe_ix ix_tup (pv 3) pe_int (fun _ _ => rfl)) (pa_cons (pv 2) pa_nil))) pa_nil)))))
        pss_nil)
      (pss_cons (ps_set (i := 5) sclnext.nd rfl (Or.inl rfl) (pe_callTy call_list_of rfl T.lst boot_list (pa_cons (pv 2) pa_nil)))
      (pss_cons (ps_if (pt_cmpR op_in_seq (pv 4) (pe_lst (pa_cons pe_str (pa_cons pe_str pa_nil))) (by rfl))
        (pss_cons (ps_asg (pe_ifExp (pt_cmpR op_eq (pv 4) pe_str (nomark _)) (pe_lst pa_nil) (pe_lst (pa_cons (pe_ix ix_tup (pv 3) pe_int (fun _ _ => rfl)) pa_nil))) (pg_sub (pv 5) (pe_ix ix_tup (pv 3) pe_int (fun _ _ => rfl)) set_list))
        (pss_one (ps_ret (pe_lst (pa_cons (pe_tup (pa_cons (pe_op op_add (pv 1) pe_int) (pa_cons (pv 2) pa_nil))) (pa_cons (pe_tup (pa_cons (pe_ix ix_tup (pv 3) (pe_un un_neg pe_int) (fun _ _ => rfl)) (pa_cons (pv 5) pa_nil))) pa_nil))))))
        pss_nil)
      (pss_cons (ps_asg (pe_call GS (hr.mono (by decide)) rfl gS FS.kp bS .nil pass0 (pa_cons (pv 3) (pa_cons (pv 2) pa_nil))) (pg_sub (pv 5) (pe_ix ix_tup (pv 3) pe_int (fun _ _ => rfl)) set_list))
      (pss_one (ps_ret (pe_lst (pa_cons (pe_tup (pa_cons (pe_op op_add (pv 1) pe_int) (pa_cons (pv 5) pa_nil))) pa_nil)))))))))))), ?_⟩
    obtain ⟨cc, cs, rfl, hc, hallC⟩ := Dq.tupI (show Dq H0 xc (.tuple (is.map Ins.data)) from hxc)
    have hc0 := hu _ _ hc
    obtain ⟨vi, hv, hvd⟩ := hallC.mapGetD hi
    obtain ⟨b, ys, rfl, hb, hallY⟩ := Dq.lstI (show Dq H0 xr (.list (r.map setL)) from hxr)
    have ly : ys.length = m := by rw [DqAll.length hallY, List.length_map]; exact cr.1
    have ovr : OvW U r := CanR.ovw cr ow.few
    have ec : cR r = r := cR_can cr
    have fin1 : ∀ (Ha Hb : Hp) (t : Nat) (y : V) (s : Rw) (p q : Addr), Ov H0 H Ha Hb → Ha p = none → Dq Hb y (rowL s) → (upd Ha p (.tup [.int (t : Int), y])) q = none → [(t, cR s)] = SL.lead x r i → OvW U s →
        Q (.ref q) (upd (upd Ha p (.tup [.int (t : Int), y])) q (.lst [.ref p])) := fun Ha Hb t y s p q va hp hy hq e o => by
      have vp := va.new (o := .tup [.int (t : Int), y]) hp
      refine hQ [(t, s)] _ _ _ (vp.new hq) (.lst upd_same (.cons ?_ .nil)) e (fun p' hp' => by rw [List.mem_singleton.mp hp']; exact o)
      have hq1 := ex_none vp.s hq
      have hp1 := ex_none va.s hp
      exact Dq.ext (Evl.Ex.new hq1) (.tup upd_same (.cons (.int _) (.cons (hy.ext (Evl.Ex.new hp1)) .nil)))
    have fin2 : ∀ (Ha Hb : Hp) (t u : Nat) (y z : V) (s s' : Rw) (p p' q : Addr), Ov H0 H Ha Hb → Ha p = none → Dq Hb y (rowL s) → Dq Hb z (rowL s') → (upd Ha p (.tup [.int (t : Int), y])) p' = none → (upd (upd Ha p (.tup [.int (t : Int), y])) p' (.tup [.int (u : Int), z])) q = none → [(t, cR s), (u, cR s')] = SL.lead x r i → OvW U s → OvW U s' →
        Q (.ref q) (upd (upd (upd Ha p (.tup [.int (t : Int), y])) p' (.tup [.int (u : Int), z])) q (.lst [.ref p, .ref p'])) := fun Ha Hb t u y z s s' p p' q va hp hy hz hp' hq e o o' => by
      have vp := va.new (o := .tup [.int (t : Int), y]) hp
      have vp' := vp.new (o := .tup [.int (u : Int), z]) hp'
      refine hQ [(t, s), (u, s')] _ _ _ (vp'.new hq) (.lst upd_same (.cons ?_ (.cons ?_ .nil))) e (fun p0 hp0 => by rcases List.mem_cons.mp hp0 with rfl | h0; exact o; rw [List.mem_singleton.mp h0]; exact o')
      · exact Dq.ext ((Evl.Ex.new (ex_none vp.s hp')).trans (Evl.Ex.new (ex_none vp'.s hq))) (.tup upd_same (.cons (.int _) (.cons (hy.ext (Evl.Ex.new (ex_none va.s hp))) .nil)))
      · exact Dq.ext (Evl.Ex.new (ex_none vp'.s hq)) (.tup upd_same (.cons (.int _) (.cons (hz.ext ((Evl.Ex.new (ex_none va.s hp)).trans (Evl.Ex.new (ex_none vp.s hp')))) .nil)))
    -- the later row, its set put
    have put : ∀ (Ha Hb : Hp) (L : Addr) (d : Nat) (z : V) (s : Option (List Str)), Ov H0 H Ha Hb → H L = none → Hb L = none → Dq Hb z (setL s) →
        Ov H0 H (upd Ha L (.lst (ys.set d z))) (upd Hb L (.lst (ys.set d z))) ∧ Dq (upd Hb L (.lst (ys.set d z))) (.ref L) (rowL (r.set d s)) := fun Ha Hb L d z s va hL hL1 hz => by
      refine ⟨(va.chg hL hL1).take hL hL1 upd_same, .lst upd_same ?_⟩
      rw [List.map_set]
      exact DqAll.setA ((hallY.ext va.u).ext (Evl.Ex.new hL1)) (hz.ext (Evl.Ex.new hL1)) d
    have ixs : ∀ (d : Nat), d < m → L2.ixN ys.length (d : Int) = some d := fun d hd => by
      unfold L2.ixN
      rw [if_pos (Int.natCast_nonneg _), if_pos (by rw [ly]; exact Int.ofNat_lt.mpr hd)]
      rfl
    cases i with
    | ret d =>
      have hvd0 := hvd
      obtain ⟨a, rfl, ha⟩ := SL.iv_ret hvd
      have ha0 := hu _ _ ha
      refine ⟨_, rfl, _, rfl, _, _, _, _, rfl, rfl, SqT.of hc0, atI_nat (j := x) hv, ?_⟩
      refine ⟨_, rfl, _, _, _, _, rfl, rfl, SqT.of ha0, atI_nat (j := 0) rfl, ?_⟩
      refine ⟨_, rfl, le_line (by simp), fun p1 h1 => ⟨p1, _, rfl, .inl (SqL.of upd_same), rfl, rfl, _, rfl, ifT (by decide +kernel) ?_⟩⟩
      have v1 := (Ov.refl hu).out (o := .lst [.str "return", .str "jump"]) h1
      have ha1 := v1.e _ _ ha0
      refine ⟨_, rfl, rfl, _, rfl, ifT (by decide +kernel) ⟨le_line (by simp), fun q hq => ?_⟩⟩
      exact hQ [] _ _ _ (v1.new hq) (.lst upd_same .nil) rfl (fun p hp => nomatch hp)
    | jump t =>
      have hvd0 := hvd
      obtain ⟨a, rfl, ha⟩ := SL.iv_jump hvd
      have ha0 := hu _ _ ha
      refine ⟨_, rfl, _, rfl, _, _, _, _, rfl, rfl, SqT.of hc0, atI_nat (j := x) hv, ?_⟩
      refine ⟨_, rfl, _, _, _, _, rfl, rfl, SqT.of ha0, atI_nat (j := 0) rfl, ?_⟩
      refine ⟨_, rfl, le_line (by simp), fun p1 h1 => ⟨p1, _, rfl, .inl (SqL.of upd_same), rfl, rfl, _, rfl, ifT (by decide +kernel) ?_⟩⟩
      have v1 := (Ov.refl hu).out (o := .lst [.str "return", .str "jump"]) h1
      have ha1 := v1.e _ _ ha0
      refine ⟨_, rfl, rfl, _, rfl, ifF (by decide +kernel) ?_⟩
      refine ⟨_, rfl, _, _, _, _, rfl, rfl, SqT.of ha1, atI_nat (j := 1) rfl, _, rfl, le_line (by simp), fun p hp => ⟨le_line (by simp), fun q hq => ?_⟩⟩
      exact fin1 _ _ t _ r p q v1 hp hxr hq (by rw [ec]; rfl) ovr
    | put d e c f t =>
      have hvd0 := hvd
      obtain ⟨a, rfl, ha⟩ := SL.iv_put hvd
      have ha0 := hu _ _ ha
      refine ⟨_, rfl, _, rfl, _, _, _, _, rfl, rfl, SqT.of hc0, atI_nat (j := x) hv, ?_⟩
      refine ⟨_, rfl, _, _, _, _, rfl, rfl, SqT.of ha0, atI_nat (j := 0) rfl, ?_⟩
      refine ⟨_, rfl, le_line (by simp), fun p1 h1 => ⟨p1, _, rfl, .inl (SqL.of upd_same), rfl, rfl, _, rfl, ifF (by decide +kernel) ?_⟩⟩
      have v1 := (Ov.refl hu).out (o := .lst [.str "return", .str "jump"]) h1
      have ha1 := v1.e _ _ ha0
      refine ⟨_, rfl, le_line (by simp), fun p2 h2 => ⟨p2, _, rfl, .inl (SqL.of upd_same), rfl, rfl, _, rfl, ifT (by decide +kernel) ?_⟩⟩
      have v2 := (v1).out (o := .lst [.str "put", .str "store", .str "tell"]) h2
      have ha2 := v2.e _ _ ha0
      refine ⟨_, rfl, _, _, rfl, rfl, _, rfl, le_line (by simp), fun p hp => ⟨le_line (by simp), fun q hq => ?_⟩⟩
      exact fin1 _ _ (x + 1) _ r p q v2 hp hxr hq (by rw [ec]; rfl) ovr
    | store d k e =>
      have hvd0 := hvd
      obtain ⟨a, rfl, ha⟩ := SL.iv_store hvd
      have ha0 := hu _ _ ha
      refine ⟨_, rfl, _, rfl, _, _, _, _, rfl, rfl, SqT.of hc0, atI_nat (j := x) hv, ?_⟩
      refine ⟨_, rfl, _, _, _, _, rfl, rfl, SqT.of ha0, atI_nat (j := 0) rfl, ?_⟩
      refine ⟨_, rfl, le_line (by simp), fun p1 h1 => ⟨p1, _, rfl, .inl (SqL.of upd_same), rfl, rfl, _, rfl, ifF (by decide +kernel) ?_⟩⟩
      have v1 := (Ov.refl hu).out (o := .lst [.str "return", .str "jump"]) h1
      have ha1 := v1.e _ _ ha0
      refine ⟨_, rfl, le_line (by simp), fun p2 h2 => ⟨p2, _, rfl, .inl (SqL.of upd_same), rfl, rfl, _, rfl, ifT (by decide +kernel) ?_⟩⟩
      have v2 := (v1).out (o := .lst [.str "put", .str "store", .str "tell"]) h2
      have ha2 := v2.e _ _ ha0
      refine ⟨_, rfl, _, _, rfl, rfl, _, rfl, le_line (by simp), fun p hp => ⟨le_line (by simp), fun q hq => ?_⟩⟩
      exact fin1 _ _ (x + 1) _ r p q v2 hp hxr hq (by rw [ec]; rfl) ovr
    | tell d =>
      have hvd0 := hvd
      obtain ⟨a, rfl, ha⟩ := SL.iv_tell hvd
      have ha0 := hu _ _ ha
      refine ⟨_, rfl, _, rfl, _, _, _, _, rfl, rfl, SqT.of hc0, atI_nat (j := x) hv, ?_⟩
      refine ⟨_, rfl, _, _, _, _, rfl, rfl, SqT.of ha0, atI_nat (j := 0) rfl, ?_⟩
      refine ⟨_, rfl, le_line (by simp), fun p1 h1 => ⟨p1, _, rfl, .inl (SqL.of upd_same), rfl, rfl, _, rfl, ifF (by decide +kernel) ?_⟩⟩
      have v1 := (Ov.refl hu).out (o := .lst [.str "return", .str "jump"]) h1
      have ha1 := v1.e _ _ ha0
      refine ⟨_, rfl, le_line (by simp), fun p2 h2 => ⟨p2, _, rfl, .inl (SqL.of upd_same), rfl, rfl, _, rfl, ifT (by decide +kernel) ?_⟩⟩
      have v2 := (v1).out (o := .lst [.str "put", .str "store", .str "tell"]) h2
      have ha2 := v2.e _ _ ha0
      refine ⟨_, rfl, _, _, rfl, rfl, _, rfl, le_line (by simp), fun p hp => ⟨le_line (by simp), fun q hq => ?_⟩⟩
      exact fin1 _ _ (x + 1) _ r p q v2 hp hxr hq (by rw [ec]; rfl) ovr
    | choose t =>
      have hvd0 := hvd
      obtain ⟨a, rfl, ha⟩ := SL.iv_choose hvd
      have ha0 := hu _ _ ha
      refine ⟨_, rfl, _, rfl, _, _, _, _, rfl, rfl, SqT.of hc0, atI_nat (j := x) hv, ?_⟩
      refine ⟨_, rfl, _, _, _, _, rfl, rfl, SqT.of ha0, atI_nat (j := 0) rfl, ?_⟩
      refine ⟨_, rfl, le_line (by simp), fun p1 h1 => ⟨p1, _, rfl, .inl (SqL.of upd_same), rfl, rfl, _, rfl, ifF (by decide +kernel) ?_⟩⟩
      have v1 := (Ov.refl hu).out (o := .lst [.str "return", .str "jump"]) h1
      have ha1 := v1.e _ _ ha0
      refine ⟨_, rfl, le_line (by simp), fun p2 h2 => ⟨p2, _, rfl, .inl (SqL.of upd_same), rfl, rfl, _, rfl, ifF (by decide +kernel) ?_⟩⟩
      have v2 := (v1).out (o := .lst [.str "put", .str "store", .str "tell"]) h2
      have ha2 := v2.e _ _ ha0
      refine ⟨_, rfl, rfl, _, rfl, ifT (by decide +kernel) ?_⟩
      refine ⟨_, rfl, _, _, rfl, rfl, _, rfl, le_line (by simp), fun p hp => ?_⟩
      have ep := Evl.Ex.new (o := .tup [.int ((x : Int) + 1), .ref b]) hp
      refine ⟨_, rfl, _, _, _, _, rfl, rfl, SqT.of (ep _ _ ha2), atI_nat (j := 1) rfl, _, rfl, le_line (by simp), fun p' hp' => ⟨le_line (by simp), fun q hq => ?_⟩⟩
      exact fin2 _ _ (x + 1) t _ _ r r p p' q v2 hp hxr hxr hp' hq (by rw [ec]; rfl) ovr ovr
    | ifnull d t =>
      have hvd0 := hvd
      obtain ⟨a, rfl, ha⟩ := SL.iv_ifnull hvd
      have ha0 := hu _ _ ha
      refine ⟨_, rfl, _, rfl, _, _, _, _, rfl, rfl, SqT.of hc0, atI_nat (j := x) hv, ?_⟩
      refine ⟨_, rfl, _, _, _, _, rfl, rfl, SqT.of ha0, atI_nat (j := 0) rfl, ?_⟩
      refine ⟨_, rfl, le_line (by simp), fun p1 h1 => ⟨p1, _, rfl, .inl (SqL.of upd_same), rfl, rfl, _, rfl, ifF (by decide +kernel) ?_⟩⟩
      have v1 := (Ov.refl hu).out (o := .lst [.str "return", .str "jump"]) h1
      have ha1 := v1.e _ _ ha0
      refine ⟨_, rfl, le_line (by simp), fun p2 h2 => ⟨p2, _, rfl, .inl (SqL.of upd_same), rfl, rfl, _, rfl, ifF (by decide +kernel) ?_⟩⟩
      have v2 := (v1).out (o := .lst [.str "put", .str "store", .str "tell"]) h2
      have ha2 := v2.e _ _ ha0
      refine ⟨_, rfl, rfl, _, rfl, ifF (by decide +kernel) ?_⟩
      refine ⟨_, rfl, b, ys, rfl, .inl (SqL.of (v2.s _ _ hb)), fun L hL => ?_⟩
      have vL := v2.out (o := .lst ys) hL
      have nL := ex_none v2.e hL
      have nL0 := ex_none v2.s hL
      have hLL : (upd (upd (upd H p1 (.lst [.str "return", .str "jump"])) p2 (.lst [.str "put", .str "store", .str "tell"])) L (.lst ys)) L = some (.lst ys) := upd_same
      refine ⟨_, rfl, le_line (by simp), fun p3 h3 => ⟨p3, _, rfl, .inl (SqL.of upd_same), rfl, rfl, _, rfl, ifT (by decide +kernel) ?_⟩⟩
      have v3 := vL.out (o := .lst [.str "ifnull", .str "ifis"]) h3
      have hL3 := (Evl.Ex.new (o := .lst [.str "ifnull", .str "ifis"]) h3) _ _ hLL
      have ha3 := v3.e _ _ ha0
      refine ⟨_, rfl, rfl, _, rfl, ifT (by decide +kernel) ⟨le_line (by simp), fun q1 g1 => ?_⟩⟩
      have v4 := v3.new (o := .lst []) g1
      have e4 := Evl.Ex.new (o := .lst []) g1
      have nb : (upd H0 q1 (.lst [])) L = none := by
        rw [upd_ne (by rintro rfl; rw [hL3] at g1; cases g1)]; exact nL0
      refine ⟨_, rfl, _, rfl, _, _, _, _, rfl, rfl, SqT.of (e4 _ _ ha3), atI_nat (j := 1) rfl, L, ys, _, d, rfl, rfl, e4 _ _ hL3, ixs d wf, ?_⟩
      obtain ⟨v5, hlr⟩ := put _ _ L d (.ref q1) (some []) v4 nL nb (.lst upd_same .nil)
      have ha5 := v5.e _ _ ha0
      refine ⟨_, rfl, _, _, rfl, rfl, _, rfl, le_line (by simp), fun p hp => ?_⟩
      have ep := Evl.Ex.new (o := .tup [.int ((x : Int) + 1), .ref b]) hp
      refine ⟨_, rfl, _, rfl, _, _, _, _, rfl, rfl, SqT.of (ep _ _ ha5), rfl, _, rfl, le_line (by simp), fun p' hp' => ⟨le_line (by simp), fun q hq => ?_⟩⟩
      exact fin2 _ _ (x + 1) t _ _ r (r.set d (some [])) p p' q v5 hp (hxr.ext v5.u) hlr hp' hq (by rw [cR_set, ec]; rfl) ovr (ovr.set (fun l e => by cases e; exact ⟨by simp, fun k hk => nomatch hk⟩) d)
    | ifis d c t =>
      have hvd0 := hvd
      obtain ⟨a, rfl, ha⟩ := SL.iv_ifis hvd
      have ha0 := hu _ _ ha
      refine ⟨_, rfl, _, rfl, _, _, _, _, rfl, rfl, SqT.of hc0, atI_nat (j := x) hv, ?_⟩
      refine ⟨_, rfl, _, _, _, _, rfl, rfl, SqT.of ha0, atI_nat (j := 0) rfl, ?_⟩
      refine ⟨_, rfl, le_line (by simp), fun p1 h1 => ⟨p1, _, rfl, .inl (SqL.of upd_same), rfl, rfl, _, rfl, ifF (by decide +kernel) ?_⟩⟩
      have v1 := (Ov.refl hu).out (o := .lst [.str "return", .str "jump"]) h1
      have ha1 := v1.e _ _ ha0
      refine ⟨_, rfl, le_line (by simp), fun p2 h2 => ⟨p2, _, rfl, .inl (SqL.of upd_same), rfl, rfl, _, rfl, ifF (by decide +kernel) ?_⟩⟩
      have v2 := (v1).out (o := .lst [.str "put", .str "store", .str "tell"]) h2
      have ha2 := v2.e _ _ ha0
      refine ⟨_, rfl, rfl, _, rfl, ifF (by decide +kernel) ?_⟩
      refine ⟨_, rfl, b, ys, rfl, .inl (SqL.of (v2.s _ _ hb)), fun L hL => ?_⟩
      have vL := v2.out (o := .lst ys) hL
      have nL := ex_none v2.e hL
      have nL0 := ex_none v2.s hL
      have hLL : (upd (upd (upd H p1 (.lst [.str "return", .str "jump"])) p2 (.lst [.str "put", .str "store", .str "tell"])) L (.lst ys)) L = some (.lst ys) := upd_same
      refine ⟨_, rfl, le_line (by simp), fun p3 h3 => ⟨p3, _, rfl, .inl (SqL.of upd_same), rfl, rfl, _, rfl, ifT (by decide +kernel) ?_⟩⟩
      have v3 := vL.out (o := .lst [.str "ifnull", .str "ifis"]) h3
      have hL3 := (Evl.Ex.new (o := .lst [.str "ifnull", .str "ifis"]) h3) _ _ hLL
      have ha3 := v3.e _ _ ha0
      refine ⟨_, rfl, rfl, _, rfl, ifF (by decide +kernel) ?_⟩
      refine ⟨_, rfl, _, _, _, _, rfl, rfl, SqT.of ha3, atI_nat (j := 2) rfl, le_line (by simp), fun q1 g1 => ?_⟩
      have v4 := v3.new (o := .lst [.str c]) g1
      have e4 := Evl.Ex.new (o := .lst [.str c]) g1
      have nb : (upd H0 q1 (.lst [.str c])) L = none := by
        rw [upd_ne (by rintro rfl; rw [hL3] at g1; cases g1)]; exact nL0
      refine ⟨_, rfl, _, rfl, _, _, _, _, rfl, rfl, SqT.of (e4 _ _ ha3), atI_nat (j := 1) rfl, L, ys, _, d, rfl, rfl, e4 _ _ hL3, ixs d wf.1, ?_⟩
      obtain ⟨v5, hlr⟩ := put _ _ L d (.ref q1) (some [c]) v4 nL nb (.lst upd_same (.cons (.str c) .nil))
      have ha5 := v5.e _ _ ha0
      refine ⟨_, rfl, _, _, rfl, rfl, _, rfl, le_line (by simp), fun p hp => ?_⟩
      have ep := Evl.Ex.new (o := .tup [.int ((x : Int) + 1), .ref b]) hp
      refine ⟨_, rfl, _, rfl, _, _, _, _, rfl, rfl, SqT.of (ep _ _ ha5), rfl, _, rfl, le_line (by simp), fun p' hp' => ⟨le_line (by simp), fun q hq => ?_⟩⟩
      exact fin2 _ _ (x + 1) t _ _ r (r.set d (some [c])) p p' q v5 hp (hxr.ext v5.u) hlr hp' hq (by rw [cR_set, ec, cS1]; rfl) ovr (ovr.set (ov1 wf.2) d)
    | new d c =>
      have hvd0 := hvd
      obtain ⟨a, rfl, ha⟩ := SL.iv_new hvd
      have ha0 := hu _ _ ha
      refine ⟨_, rfl, _, rfl, _, _, _, _, rfl, rfl, SqT.of hc0, atI_nat (j := x) hv, ?_⟩
      refine ⟨_, rfl, _, _, _, _, rfl, rfl, SqT.of ha0, atI_nat (j := 0) rfl, ?_⟩
      refine ⟨_, rfl, le_line (by simp), fun p1 h1 => ⟨p1, _, rfl, .inl (SqL.of upd_same), rfl, rfl, _, rfl, ifF (by decide +kernel) ?_⟩⟩
      have v1 := (Ov.refl hu).out (o := .lst [.str "return", .str "jump"]) h1
      have ha1 := v1.e _ _ ha0
      refine ⟨_, rfl, le_line (by simp), fun p2 h2 => ⟨p2, _, rfl, .inl (SqL.of upd_same), rfl, rfl, _, rfl, ifF (by decide +kernel) ?_⟩⟩
      have v2 := (v1).out (o := .lst [.str "put", .str "store", .str "tell"]) h2
      have ha2 := v2.e _ _ ha0
      refine ⟨_, rfl, rfl, _, rfl, ifF (by decide +kernel) ?_⟩
      refine ⟨_, rfl, b, ys, rfl, .inl (SqL.of (v2.s _ _ hb)), fun L hL => ?_⟩
      have vL := v2.out (o := .lst ys) hL
      have nL := ex_none v2.e hL
      have nL0 := ex_none v2.s hL
      have hLL : (upd (upd (upd H p1 (.lst [.str "return", .str "jump"])) p2 (.lst [.str "put", .str "store", .str "tell"])) L (.lst ys)) L = some (.lst ys) := upd_same
      refine ⟨_, rfl, le_line (by simp), fun p3 h3 => ⟨p3, _, rfl, .inl (SqL.of upd_same), rfl, rfl, _, rfl, ifF (by decide +kernel) ?_⟩⟩
      have v3 := vL.out (o := .lst [.str "ifnull", .str "ifis"]) h3
      have hL3 := (Evl.Ex.new (o := .lst [.str "ifnull", .str "ifis"]) h3) _ _ hLL
      have ha3 := v3.e _ _ ha0
      refine ⟨_, rfl, _, rfl, H0, _, _, _, r, U, m, rfl, v3.s, hvd0, hxr, cr, wf, rfl, ow, fun s z H4 H4b v4 hz hs ho => ?_⟩
      have nb : H4b L = none := v4.no L (by rw [hL3]; exact fun e => nomatch e) nL0
      have v4' := v3.trans v4
      refine ⟨_, rfl, _, rfl, _, _, _, _, rfl, rfl, SqT.of (v4.e _ _ ha3), atI_nat (j := 1) rfl, L, ys, _, d, rfl, rfl, v4.e _ _ hL3, ixs d wf.1, ?_⟩
      obtain ⟨v5, hlr⟩ := put _ _ L d z s v4' nL nb hz
      refine ⟨_, rfl, _, _, rfl, rfl, _, rfl, le_line (by simp), fun p hp => ⟨le_line (by simp), fun q hq => ?_⟩⟩
      exact fin1 _ _ (x + 1) _ (r.set d s) p q v5 hp hlr hq (by rw [cR_set, ec, hs]; rfl) (ovr.set ho d)
    | array d c k =>
      have hvd0 := hvd
      obtain ⟨a, rfl, ha⟩ := SL.iv_array hvd
      have ha0 := hu _ _ ha
      refine ⟨_, rfl, _, rfl, _, _, _, _, rfl, rfl, SqT.of hc0, atI_nat (j := x) hv, ?_⟩
      refine ⟨_, rfl, _, _, _, _, rfl, rfl, SqT.of ha0, atI_nat (j := 0) rfl, ?_⟩
      refine ⟨_, rfl, le_line (by simp), fun p1 h1 => ⟨p1, _, rfl, .inl (SqL.of upd_same), rfl, rfl, _, rfl, ifF (by decide +kernel) ?_⟩⟩
      have v1 := (Ov.refl hu).out (o := .lst [.str "return", .str "jump"]) h1
      have ha1 := v1.e _ _ ha0
      refine ⟨_, rfl, le_line (by simp), fun p2 h2 => ⟨p2, _, rfl, .inl (SqL.of upd_same), rfl, rfl, _, rfl, ifF (by decide +kernel) ?_⟩⟩
      have v2 := (v1).out (o := .lst [.str "put", .str "store", .str "tell"]) h2
      have ha2 := v2.e _ _ ha0
      refine ⟨_, rfl, rfl, _, rfl, ifF (by decide +kernel) ?_⟩
      refine ⟨_, rfl, b, ys, rfl, .inl (SqL.of (v2.s _ _ hb)), fun L hL => ?_⟩
      have vL := v2.out (o := .lst ys) hL
      have nL := ex_none v2.e hL
      have nL0 := ex_none v2.s hL
      have hLL : (upd (upd (upd H p1 (.lst [.str "return", .str "jump"])) p2 (.lst [.str "put", .str "store", .str "tell"])) L (.lst ys)) L = some (.lst ys) := upd_same
      refine ⟨_, rfl, le_line (by simp), fun p3 h3 => ⟨p3, _, rfl, .inl (SqL.of upd_same), rfl, rfl, _, rfl, ifF (by decide +kernel) ?_⟩⟩
      have v3 := vL.out (o := .lst [.str "ifnull", .str "ifis"]) h3
      have hL3 := (Evl.Ex.new (o := .lst [.str "ifnull", .str "ifis"]) h3) _ _ hLL
      have ha3 := v3.e _ _ ha0
      refine ⟨_, rfl, _, rfl, H0, _, _, _, r, U, m, rfl, v3.s, hvd0, hxr, cr, wf, rfl, ow, fun s z H4 H4b v4 hz hs ho => ?_⟩
      have nb : H4b L = none := v4.no L (by rw [hL3]; exact fun e => nomatch e) nL0
      have v4' := v3.trans v4
      refine ⟨_, rfl, _, rfl, _, _, _, _, rfl, rfl, SqT.of (v4.e _ _ ha3), atI_nat (j := 1) rfl, L, ys, _, d, rfl, rfl, v4.e _ _ hL3, ixs d wf.1, ?_⟩
      obtain ⟨v5, hlr⟩ := put _ _ L d z s v4' nL nb hz
      refine ⟨_, rfl, _, _, rfl, rfl, _, rfl, le_line (by simp), fun p hp => ⟨le_line (by simp), fun q hq => ?_⟩⟩
      exact fin1 _ _ (x + 1) _ (r.set d s) p q v5 hp hlr hq (by rw [cR_set, ec, hs]; rfl) (ovr.set ho d)
    | null d =>
      have hvd0 := hvd
      obtain ⟨a, rfl, ha⟩ := SL.iv_null hvd
      have ha0 := hu _ _ ha
      refine ⟨_, rfl, _, rfl, _, _, _, _, rfl, rfl, SqT.of hc0, atI_nat (j := x) hv, ?_⟩
      refine ⟨_, rfl, _, _, _, _, rfl, rfl, SqT.of ha0, atI_nat (j := 0) rfl, ?_⟩
      refine ⟨_, rfl, le_line (by simp), fun p1 h1 => ⟨p1, _, rfl, .inl (SqL.of upd_same), rfl, rfl, _, rfl, ifF (by decide +kernel) ?_⟩⟩
      have v1 := (Ov.refl hu).out (o := .lst [.str "return", .str "jump"]) h1
      have ha1 := v1.e _ _ ha0
      refine ⟨_, rfl, le_line (by simp), fun p2 h2 => ⟨p2, _, rfl, .inl (SqL.of upd_same), rfl, rfl, _, rfl, ifF (by decide +kernel) ?_⟩⟩
      have v2 := (v1).out (o := .lst [.str "put", .str "store", .str "tell"]) h2
      have ha2 := v2.e _ _ ha0
      refine ⟨_, rfl, rfl, _, rfl, ifF (by decide +kernel) ?_⟩
      refine ⟨_, rfl, b, ys, rfl, .inl (SqL.of (v2.s _ _ hb)), fun L hL => ?_⟩
      have vL := v2.out (o := .lst ys) hL
      have nL := ex_none v2.e hL
      have nL0 := ex_none v2.s hL
      have hLL : (upd (upd (upd H p1 (.lst [.str "return", .str "jump"])) p2 (.lst [.str "put", .str "store", .str "tell"])) L (.lst ys)) L = some (.lst ys) := upd_same
      refine ⟨_, rfl, le_line (by simp), fun p3 h3 => ⟨p3, _, rfl, .inl (SqL.of upd_same), rfl, rfl, _, rfl, ifF (by decide +kernel) ?_⟩⟩
      have v3 := vL.out (o := .lst [.str "ifnull", .str "ifis"]) h3
      have hL3 := (Evl.Ex.new (o := .lst [.str "ifnull", .str "ifis"]) h3) _ _ hLL
      have ha3 := v3.e _ _ ha0
      refine ⟨_, rfl, _, rfl, H0, _, _, _, r, U, m, rfl, v3.s, hvd0, hxr, cr, wf, rfl, ow, fun s z H4 H4b v4 hz hs ho => ?_⟩
      have nb : H4b L = none := v4.no L (by rw [hL3]; exact fun e => nomatch e) nL0
      have v4' := v3.trans v4
      refine ⟨_, rfl, _, rfl, _, _, _, _, rfl, rfl, SqT.of (v4.e _ _ ha3), atI_nat (j := 1) rfl, L, ys, _, d, rfl, rfl, v4.e _ _ hL3, ixs d wf, ?_⟩
      obtain ⟨v5, hlr⟩ := put _ _ L d z s v4' nL nb hz
      refine ⟨_, rfl, _, _, rfl, rfl, _, rfl, le_line (by simp), fun p hp => ⟨le_line (by simp), fun q hq => ?_⟩⟩
      exact fin1 _ _ (x + 1) _ (r.set d s) p q v5 hp hlr hq (by rw [cR_set, ec, hs]; rfl) (ovr.set ho d)
    | move d e =>
      have hvd0 := hvd
      obtain ⟨a, rfl, ha⟩ := SL.iv_move hvd
      have ha0 := hu _ _ ha
      refine ⟨_, rfl, _, rfl, _, _, _, _, rfl, rfl, SqT.of hc0, atI_nat (j := x) hv, ?_⟩
      refine ⟨_, rfl, _, _, _, _, rfl, rfl, SqT.of ha0, atI_nat (j := 0) rfl, ?_⟩
      refine ⟨_, rfl, le_line (by simp), fun p1 h1 => ⟨p1, _, rfl, .inl (SqL.of upd_same), rfl, rfl, _, rfl, ifF (by decide +kernel) ?_⟩⟩
      have v1 := (Ov.refl hu).out (o := .lst [.str "return", .str "jump"]) h1
      have ha1 := v1.e _ _ ha0
      refine ⟨_, rfl, le_line (by simp), fun p2 h2 => ⟨p2, _, rfl, .inl (SqL.of upd_same), rfl, rfl, _, rfl, ifF (by decide +kernel) ?_⟩⟩
      have v2 := (v1).out (o := .lst [.str "put", .str "store", .str "tell"]) h2
      have ha2 := v2.e _ _ ha0
      refine ⟨_, rfl, rfl, _, rfl, ifF (by decide +kernel) ?_⟩
      refine ⟨_, rfl, b, ys, rfl, .inl (SqL.of (v2.s _ _ hb)), fun L hL => ?_⟩
      have vL := v2.out (o := .lst ys) hL
      have nL := ex_none v2.e hL
      have nL0 := ex_none v2.s hL
      have hLL : (upd (upd (upd H p1 (.lst [.str "return", .str "jump"])) p2 (.lst [.str "put", .str "store", .str "tell"])) L (.lst ys)) L = some (.lst ys) := upd_same
      refine ⟨_, rfl, le_line (by simp), fun p3 h3 => ⟨p3, _, rfl, .inl (SqL.of upd_same), rfl, rfl, _, rfl, ifF (by decide +kernel) ?_⟩⟩
      have v3 := vL.out (o := .lst [.str "ifnull", .str "ifis"]) h3
      have hL3 := (Evl.Ex.new (o := .lst [.str "ifnull", .str "ifis"]) h3) _ _ hLL
      have ha3 := v3.e _ _ ha0
      refine ⟨_, rfl, _, rfl, H0, _, _, _, r, U, m, rfl, v3.s, hvd0, hxr, cr, wf, rfl, ow, fun s z H4 H4b v4 hz hs ho => ?_⟩
      have nb : H4b L = none := v4.no L (by rw [hL3]; exact fun e => nomatch e) nL0
      have v4' := v3.trans v4
      refine ⟨_, rfl, _, rfl, _, _, _, _, rfl, rfl, SqT.of (v4.e _ _ ha3), atI_nat (j := 1) rfl, L, ys, _, d, rfl, rfl, v4.e _ _ hL3, ixs d wf.1, ?_⟩
      obtain ⟨v5, hlr⟩ := put _ _ L d z s v4' nL nb hz
      refine ⟨_, rfl, _, _, rfl, rfl, _, rfl, le_line (by simp), fun p hp => ⟨le_line (by simp), fun q hq => ?_⟩⟩
      exact fin1 _ _ (x + 1) _ (r.set d s) p q v5 hp hlr hq (by rw [cR_set, ec, hs]; rfl) (ovr.set ho d)
    | get d e c f t =>
      have hvd0 := hvd
      obtain ⟨a, rfl, ha⟩ := SL.iv_get hvd
      have ha0 := hu _ _ ha
      refine ⟨_, rfl, _, rfl, _, _, _, _, rfl, rfl, SqT.of hc0, atI_nat (j := x) hv, ?_⟩
      refine ⟨_, rfl, _, _, _, _, rfl, rfl, SqT.of ha0, atI_nat (j := 0) rfl, ?_⟩
      refine ⟨_, rfl, le_line (by simp), fun p1 h1 => ⟨p1, _, rfl, .inl (SqL.of upd_same), rfl, rfl, _, rfl, ifF (by decide +kernel) ?_⟩⟩
      have v1 := (Ov.refl hu).out (o := .lst [.str "return", .str "jump"]) h1
      have ha1 := v1.e _ _ ha0
      refine ⟨_, rfl, le_line (by simp), fun p2 h2 => ⟨p2, _, rfl, .inl (SqL.of upd_same), rfl, rfl, _, rfl, ifF (by decide +kernel) ?_⟩⟩
      have v2 := (v1).out (o := .lst [.str "put", .str "store", .str "tell"]) h2
      have ha2 := v2.e _ _ ha0
      refine ⟨_, rfl, rfl, _, rfl, ifF (by decide +kernel) ?_⟩
      refine ⟨_, rfl, b, ys, rfl, .inl (SqL.of (v2.s _ _ hb)), fun L hL => ?_⟩
      have vL := v2.out (o := .lst ys) hL
      have nL := ex_none v2.e hL
      have nL0 := ex_none v2.s hL
      have hLL : (upd (upd (upd H p1 (.lst [.str "return", .str "jump"])) p2 (.lst [.str "put", .str "store", .str "tell"])) L (.lst ys)) L = some (.lst ys) := upd_same
      refine ⟨_, rfl, le_line (by simp), fun p3 h3 => ⟨p3, _, rfl, .inl (SqL.of upd_same), rfl, rfl, _, rfl, ifF (by decide +kernel) ?_⟩⟩
      have v3 := vL.out (o := .lst [.str "ifnull", .str "ifis"]) h3
      have hL3 := (Evl.Ex.new (o := .lst [.str "ifnull", .str "ifis"]) h3) _ _ hLL
      have ha3 := v3.e _ _ ha0
      refine ⟨_, rfl, _, rfl, H0, _, _, _, r, U, m, rfl, v3.s, hvd0, hxr, cr, wf, rfl, ow, fun s z H4 H4b v4 hz hs ho => ?_⟩
      have nb : H4b L = none := v4.no L (by rw [hL3]; exact fun e => nomatch e) nL0
      have v4' := v3.trans v4
      refine ⟨_, rfl, _, rfl, _, _, _, _, rfl, rfl, SqT.of (v4.e _ _ ha3), atI_nat (j := 1) rfl, L, ys, _, d, rfl, rfl, v4.e _ _ hL3, ixs d wf.1, ?_⟩
      obtain ⟨v5, hlr⟩ := put _ _ L d z s v4' nL nb hz
      refine ⟨_, rfl, _, _, rfl, rfl, _, rfl, le_line (by simp), fun p hp => ⟨le_line (by simp), fun q hq => ?_⟩⟩
      exact fin1 _ _ (x + 1) _ (r.set d s) p q v5 hp hlr hq (by rw [cR_set, ec, hs]; rfl) (ovr.set ho d)
    | call d e c f ks t as =>
      have hvd0 := hvd
      obtain ⟨a, v5, v7, rfl, ha, _, _⟩ := SL.iv_call hvd
      have ha0 := hu _ _ ha
      refine ⟨_, rfl, _, rfl, _, _, _, _, rfl, rfl, SqT.of hc0, atI_nat (j := x) hv, ?_⟩
      refine ⟨_, rfl, _, _, _, _, rfl, rfl, SqT.of ha0, atI_nat (j := 0) rfl, ?_⟩
      refine ⟨_, rfl, le_line (by simp), fun p1 h1 => ⟨p1, _, rfl, .inl (SqL.of upd_same), rfl, rfl, _, rfl, ifF (by decide +kernel) ?_⟩⟩
      have v1 := (Ov.refl hu).out (o := .lst [.str "return", .str "jump"]) h1
      have ha1 := v1.e _ _ ha0
      refine ⟨_, rfl, le_line (by simp), fun p2 h2 => ⟨p2, _, rfl, .inl (SqL.of upd_same), rfl, rfl, _, rfl, ifF (by decide +kernel) ?_⟩⟩
      have v2 := (v1).out (o := .lst [.str "put", .str "store", .str "tell"]) h2
      have ha2 := v2.e _ _ ha0
      refine ⟨_, rfl, rfl, _, rfl, ifF (by decide +kernel) ?_⟩
      refine ⟨_, rfl, b, ys, rfl, .inl (SqL.of (v2.s _ _ hb)), fun L hL => ?_⟩
      have vL := v2.out (o := .lst ys) hL
      have nL := ex_none v2.e hL
      have nL0 := ex_none v2.s hL
      have hLL : (upd (upd (upd H p1 (.lst [.str "return", .str "jump"])) p2 (.lst [.str "put", .str "store", .str "tell"])) L (.lst ys)) L = some (.lst ys) := upd_same
      refine ⟨_, rfl, le_line (by simp), fun p3 h3 => ⟨p3, _, rfl, .inl (SqL.of upd_same), rfl, rfl, _, rfl, ifF (by decide +kernel) ?_⟩⟩
      have v3 := vL.out (o := .lst [.str "ifnull", .str "ifis"]) h3
      have hL3 := (Evl.Ex.new (o := .lst [.str "ifnull", .str "ifis"]) h3) _ _ hLL
      have ha3 := v3.e _ _ ha0
      refine ⟨_, rfl, _, rfl, H0, _, _, _, r, U, m, rfl, v3.s, hvd0, hxr, cr, wf, rfl, ow, fun s z H4 H4b v4 hz hs ho => ?_⟩
      have nb : H4b L = none := v4.no L (by rw [hL3]; exact fun e => nomatch e) nL0
      have v4' := v3.trans v4
      refine ⟨_, rfl, _, rfl, _, _, _, _, rfl, rfl, SqT.of (v4.e _ _ ha3), atI_nat (j := 1) rfl, L, ys, _, d, rfl, rfl, v4.e _ _ hL3, ixs d wf.1, ?_⟩
      obtain ⟨v5, hlr⟩ := put _ _ L d z s v4' nL nb hz
      refine ⟨_, rfl, _, _, rfl, rfl, _, rfl, le_line (by simp), fun p hp => ⟨le_line (by simp), fun q hq => ?_⟩⟩
      exact fin1 _ _ (x + 1) _ (r.set d s) p q v5 hp hlr hq (by rw [cR_set, ec, hs]; rfl) (ovr.set ho d)
    | ask d e c f ks t as =>
      have hvd0 := hvd
      obtain ⟨a, v5, v7, rfl, ha, _, _⟩ := SL.iv_ask hvd
      have ha0 := hu _ _ ha
      refine ⟨_, rfl, _, rfl, _, _, _, _, rfl, rfl, SqT.of hc0, atI_nat (j := x) hv, ?_⟩
      refine ⟨_, rfl, _, _, _, _, rfl, rfl, SqT.of ha0, atI_nat (j := 0) rfl, ?_⟩
      refine ⟨_, rfl, le_line (by simp), fun p1 h1 => ⟨p1, _, rfl, .inl (SqL.of upd_same), rfl, rfl, _, rfl, ifF (by decide +kernel) ?_⟩⟩
      have v1 := (Ov.refl hu).out (o := .lst [.str "return", .str "jump"]) h1
      have ha1 := v1.e _ _ ha0
      refine ⟨_, rfl, le_line (by simp), fun p2 h2 => ⟨p2, _, rfl, .inl (SqL.of upd_same), rfl, rfl, _, rfl, ifF (by decide +kernel) ?_⟩⟩
      have v2 := (v1).out (o := .lst [.str "put", .str "store", .str "tell"]) h2
      have ha2 := v2.e _ _ ha0
      refine ⟨_, rfl, rfl, _, rfl, ifF (by decide +kernel) ?_⟩
      refine ⟨_, rfl, b, ys, rfl, .inl (SqL.of (v2.s _ _ hb)), fun L hL => ?_⟩
      have vL := v2.out (o := .lst ys) hL
      have nL := ex_none v2.e hL
      have nL0 := ex_none v2.s hL
      have hLL : (upd (upd (upd H p1 (.lst [.str "return", .str "jump"])) p2 (.lst [.str "put", .str "store", .str "tell"])) L (.lst ys)) L = some (.lst ys) := upd_same
      refine ⟨_, rfl, le_line (by simp), fun p3 h3 => ⟨p3, _, rfl, .inl (SqL.of upd_same), rfl, rfl, _, rfl, ifF (by decide +kernel) ?_⟩⟩
      have v3 := vL.out (o := .lst [.str "ifnull", .str "ifis"]) h3
      have hL3 := (Evl.Ex.new (o := .lst [.str "ifnull", .str "ifis"]) h3) _ _ hLL
      have ha3 := v3.e _ _ ha0
      refine ⟨_, rfl, _, rfl, H0, _, _, _, r, U, m, rfl, v3.s, hvd0, hxr, cr, wf, rfl, ow, fun s z H4 H4b v4 hz hs ho => ?_⟩
      have nb : H4b L = none := v4.no L (by rw [hL3]; exact fun e => nomatch e) nL0
      have v4' := v3.trans v4
      refine ⟨_, rfl, _, rfl, _, _, _, _, rfl, rfl, SqT.of (v4.e _ _ ha3), atI_nat (j := 1) rfl, L, ys, _, d, rfl, rfl, v4.e _ _ hL3, ixs d wf.1, ?_⟩
      obtain ⟨v5, hlr⟩ := put _ _ L d z s v4' nL nb hz
      refine ⟨_, rfl, _, _, rfl, rfl, _, rfl, le_line (by simp), fun p hp => ⟨le_line (by simp), fun q hq => ?_⟩⟩
      exact fin1 _ _ (x + 1) _ (r.set d s) p q v5 hp hlr hq (by rw [cR_set, ec, hs]; rfl) (ovr.set ho d)
    | cast d e c =>
      have hvd0 := hvd
      obtain ⟨a, rfl, ha⟩ := SL.iv_cast hvd
      have ha0 := hu _ _ ha
      refine ⟨_, rfl, _, rfl, _, _, _, _, rfl, rfl, SqT.of hc0, atI_nat (j := x) hv, ?_⟩
      refine ⟨_, rfl, _, _, _, _, rfl, rfl, SqT.of ha0, atI_nat (j := 0) rfl, ?_⟩
      refine ⟨_, rfl, le_line (by simp), fun p1 h1 => ⟨p1, _, rfl, .inl (SqL.of upd_same), rfl, rfl, _, rfl, ifF (by decide +kernel) ?_⟩⟩
      have v1 := (Ov.refl hu).out (o := .lst [.str "return", .str "jump"]) h1
      have ha1 := v1.e _ _ ha0
      refine ⟨_, rfl, le_line (by simp), fun p2 h2 => ⟨p2, _, rfl, .inl (SqL.of upd_same), rfl, rfl, _, rfl, ifF (by decide +kernel) ?_⟩⟩
      have v2 := (v1).out (o := .lst [.str "put", .str "store", .str "tell"]) h2
      have ha2 := v2.e _ _ ha0
      refine ⟨_, rfl, rfl, _, rfl, ifF (by decide +kernel) ?_⟩
      refine ⟨_, rfl, b, ys, rfl, .inl (SqL.of (v2.s _ _ hb)), fun L hL => ?_⟩
      have vL := v2.out (o := .lst ys) hL
      have nL := ex_none v2.e hL
      have nL0 := ex_none v2.s hL
      have hLL : (upd (upd (upd H p1 (.lst [.str "return", .str "jump"])) p2 (.lst [.str "put", .str "store", .str "tell"])) L (.lst ys)) L = some (.lst ys) := upd_same
      refine ⟨_, rfl, le_line (by simp), fun p3 h3 => ⟨p3, _, rfl, .inl (SqL.of upd_same), rfl, rfl, _, rfl, ifF (by decide +kernel) ?_⟩⟩
      have v3 := vL.out (o := .lst [.str "ifnull", .str "ifis"]) h3
      have hL3 := (Evl.Ex.new (o := .lst [.str "ifnull", .str "ifis"]) h3) _ _ hLL
      have ha3 := v3.e _ _ ha0
      refine ⟨_, rfl, _, rfl, H0, _, _, _, r, U, m, rfl, v3.s, hvd0, hxr, cr, wf, rfl, ow, fun s z H4 H4b v4 hz hs ho => ?_⟩
      have nb : H4b L = none := v4.no L (by rw [hL3]; exact fun e => nomatch e) nL0
      have v4' := v3.trans v4
      refine ⟨_, rfl, _, rfl, _, _, _, _, rfl, rfl, SqT.of (v4.e _ _ ha3), atI_nat (j := 1) rfl, L, ys, _, d, rfl, rfl, v4.e _ _ hL3, ixs d wf.1, ?_⟩
      obtain ⟨v5, hlr⟩ := put _ _ L d z s v4' nL nb hz
      refine ⟨_, rfl, _, _, rfl, rfl, _, rfl, le_line (by simp), fun p hp => ⟨le_line (by simp), fun q hq => ?_⟩⟩
      exact fin1 _ _ (x + 1) _ (r.set d s) p q v5 hp hlr hq (by rw [cR_set, ec, hs]; rfl) (ovr.set ho d)
    | load d e k =>
      have hvd0 := hvd
      obtain ⟨a, rfl, ha⟩ := SL.iv_load hvd
      have ha0 := hu _ _ ha
      refine ⟨_, rfl, _, rfl, _, _, _, _, rfl, rfl, SqT.of hc0, atI_nat (j := x) hv, ?_⟩
      refine ⟨_, rfl, _, _, _, _, rfl, rfl, SqT.of ha0, atI_nat (j := 0) rfl, ?_⟩
      refine ⟨_, rfl, le_line (by simp), fun p1 h1 => ⟨p1, _, rfl, .inl (SqL.of upd_same), rfl, rfl, _, rfl, ifF (by decide +kernel) ?_⟩⟩
      have v1 := (Ov.refl hu).out (o := .lst [.str "return", .str "jump"]) h1
      have ha1 := v1.e _ _ ha0
      refine ⟨_, rfl, le_line (by simp), fun p2 h2 => ⟨p2, _, rfl, .inl (SqL.of upd_same), rfl, rfl, _, rfl, ifF (by decide +kernel) ?_⟩⟩
      have v2 := (v1).out (o := .lst [.str "put", .str "store", .str "tell"]) h2
      have ha2 := v2.e _ _ ha0
      refine ⟨_, rfl, rfl, _, rfl, ifF (by decide +kernel) ?_⟩
      refine ⟨_, rfl, b, ys, rfl, .inl (SqL.of (v2.s _ _ hb)), fun L hL => ?_⟩
      have vL := v2.out (o := .lst ys) hL
      have nL := ex_none v2.e hL
      have nL0 := ex_none v2.s hL
      have hLL : (upd (upd (upd H p1 (.lst [.str "return", .str "jump"])) p2 (.lst [.str "put", .str "store", .str "tell"])) L (.lst ys)) L = some (.lst ys) := upd_same
      refine ⟨_, rfl, le_line (by simp), fun p3 h3 => ⟨p3, _, rfl, .inl (SqL.of upd_same), rfl, rfl, _, rfl, ifF (by decide +kernel) ?_⟩⟩
      have v3 := vL.out (o := .lst [.str "ifnull", .str "ifis"]) h3
      have hL3 := (Evl.Ex.new (o := .lst [.str "ifnull", .str "ifis"]) h3) _ _ hLL
      have ha3 := v3.e _ _ ha0
      refine ⟨_, rfl, _, rfl, H0, _, _, _, r, U, m, rfl, v3.s, hvd0, hxr, cr, wf, rfl, ow, fun s z H4 H4b v4 hz hs ho => ?_⟩
      have nb : H4b L = none := v4.no L (by rw [hL3]; exact fun e => nomatch e) nL0
      have v4' := v3.trans v4
      refine ⟨_, rfl, _, rfl, _, _, _, _, rfl, rfl, SqT.of (v4.e _ _ ha3), atI_nat (j := 1) rfl, L, ys, _, d, rfl, rfl, v4.e _ _ hL3, ixs d wf.1, ?_⟩
      obtain ⟨v5, hlr⟩ := put _ _ L d z s v4' nL nb hz
      refine ⟨_, rfl, _, _, rfl, rfl, _, rfl, le_line (by simp), fun p hp => ⟨le_line (by simp), fun q hq => ?_⟩⟩
      exact fin1 _ _ (x + 1) _ (r.set d s) p q v5 hp hlr hq (by rw [cR_set, ec, hs]; rfl) (ovr.set ho d)
end
end K07
set_option Elab.async false
set_option linter.all false
set_option maxRecDepth 100000
set_option maxHeartbeats 0
namespace EX2
open PySem PySem.Spec PyProof.Rows L2
section
variable {J : It} {n : Nat} {G : Hp → Prop} {Y : Nat → Hp → V → Hp → Prop}
/-- a comprehension whose j-th element is the data dat j, kept to a part of the heap -/
theorem lc_ov (w : Walk J n G Y) {g : TG} {te : TE} {vs : List Nat} {σ : L2.St} {H0 H H1 Hb : Hp} {D : Addr} {Qd : Hp → Prop} (v1 : Ov H0 H H1 Hb) (hD : H1 D = none) (hG : ∀ H', Evl.Ex H1 H' → G H') (dat : Nat → PyData) (hz : n ≤ 100000)
    (hY : ∀ j H2 x H3, j < n → Evl.Ex H1 H2 → Y j H2 x H3 → Evl.Ex H2 H3)
    (hs : ∀ j x H2 H3 Hd, j < n → Evl.Ex H1 H2 → Y j H2 x H3 → Evl.Ex Hd H3 → Evl.Ex Hb Hd → ∀ Qt : V → Hp → Prop, (∀ y H4 Hd', Ov Hd H3 H4 Hd' → Dq Hd' y (dat j) → Qt y H4) → g x (wipe σ vs) H3 fun σ2 H4 => wipe σ2 vs = wipe σ vs ∧ te σ2 H4 Qt)
    (hd : ∀ H' Hd xs, Ov H0 H H' Hd → Evl.Ex Hb Hd → H' D = some (.lst xs) → Hd D = none → DqAll Hd xs ((List.range n).map dat) → Qd H') :
    ∃ W : Nat → Nat → Hp → Prop, (∃ m, W 0 m (upd H1 D (.lst []))) ∧ ∀ i m H, W i m H →
      (J.stop i H ∧ Qd H) ∨ (J.go i H ∧ ∃ Nx : Hp → Prop, (∀ H', Nx H' → ∃ m', m' < m ∧ W (i + 1) m' H') ∧ ∀ x H', J.yld i H x H' → g x (wipe σ vs) H' fun σ2 H2 => wipe σ2 vs = wipe σ vs ∧ tYes σ2 H2 fun b H3 =>
        if b = true then te σ2 H3 fun y H4 => ∃ acc, H4 D = some (.lst acc) ∧ acc.length < sizeLine ∧ Nx (upd H4 D (.lst (acc ++ [y]))) else Nx H3) := by
  have nH := ex_none v1.e hD
  have nb := ex_none v1.s hD
  refine lc_it w (fun j H' => Evl.Ex H1 H' ∧ ∃ Hd xs, Ov H0 H H' Hd ∧ Evl.Ex Hb Hd ∧ Hd D = none ∧ H' D = some (.lst xs) ∧ DqAll Hd xs ((List.range j).map dat)) ⟨Evl.Ex.new hD, Hb, [], v1.out hD, Evl.Ex.refl _, nb, upd_same, .nil⟩ (fun i H hi p => hG H p.1) ?_ (fun H ⟨e, Hd, xs, v, eb, n, a, b⟩ => hd H Hd xs v eb a n b)
  rintro j x H2 H3 hj ⟨e, Hd, xs, v, eb, nd, hd2, hall⟩ hy
  have e3 := hY j H2 x H3 hj e hy
  have v3 := v.more e3
  have q := hs j x H2 H3 Hd hj e hy v3.s eb (fun y H4 => ∃ acc, H4 D = some (.lst acc) ∧ acc.length < sizeLine ∧ (Evl.Ex H1 (upd H4 D (.lst (acc ++ [y]))) ∧ ∃ Hd xs, Ov H0 H (upd H4 D (.lst (acc ++ [y]))) Hd ∧ Evl.Ex Hb Hd ∧ Hd D = none ∧ (upd H4 D (.lst (acc ++ [y]))) D = some (.lst xs) ∧ DqAll Hd xs ((List.range (j + 1)).map dat))) ?_
  · simp only [tYes, if_true]
    exact q
  · intro y H4 Hd' v4 hy4
    have hD3 := e3 _ _ hd2
    have nd' := v4.no D (by rw [hD3]; exact fun z => nomatch z) nd
    have lx : xs.length = j := by rw [hall.length, List.length_map, List.length_range]
    refine ⟨xs, v4.e _ _ hD3, by rw [lx, sizeLine_eq]; omega, ((e.trans e3).trans v4.e).mut hD, Hd', xs ++ [y], (v3.trans v4).chg nH nd', eb.trans v4.u, nd', upd_same, ?_⟩
    rw [List.range_succ, List.map_append]
    exact DqAll.app (hall.ext v4.u) (.cons hy4 .nil)
end
end EX2
set_option Elab.async false
set_option linter.all false
set_option maxRecDepth 100000
set_option maxHeartbeats 0
namespace K07
open PySem PySem.Spec PyProof.Rows L2 EX2 TX
open SL (setT rowT orT setL rowL orL jS jR CanS CanR newR Ins Wf dN leadT)
abbrev sljoin : Stmt := top 47
theorem jS_raw (l1 l2 : List Str) : jS (some l1) (cS (some l2)) = some (canon (l1 ++ l2)) := by
  show some (canon (l1 ++ canon l2)) = _
  rw [canon_congr (b := l1 ++ l2) fun k => by rw [List.mem_append, List.mem_append, mem_canon]]
theorem lineS {n : Nat} (h : n ≤ 200) : n + 1 < scanBound := Nat.lt_of_le_of_lt (Nat.succ_le_succ h) (by decide)
def spLJoin : Sp := fun vs H Q _ => ∃ (H0 : Hp) (x y : V) (o : Option Rw) (r : Rw) (U : List Str) (m : Nat), vs = [x, y] ∧ Evl.Ex H0 H ∧ Dq H0 x (orL o) ∧ Dq H0 y (rowL r) ∧ (∀ a, o = some a → CanR U m a) ∧ CanR U m (cR r) ∧ OvW U r ∧ U.length < 64 ∧ m ≤ 1000 ∧
  ∀ v H2 H1, Ov H0 H H2 H1 → Dq H1 v (rowL (newR o (cR r))) → Q v H2
section
variable {P : Program} {w : World} {K : PySem.W.Frag} {mg : Str → Option Value} {base : Heap} {f : Addr} {fd : FuncData}
abbrev nljoin : List Str := ["_law_row", "_law_other", "_law_found", "_law_one", "_law_two", "_law_part"]
abbrev pljoin : List Str := ["_law_row", "_law_other"]
theorem scljoin : FnScope nljoin pljoin (defScope sljoin) := ⟨rfl, rfl, rfl, by decide +kernel, rfl, by decide +kernel, by decide +kernel⟩
theorem ok_ljoin (F : FnP K "_law_joined" sljoin f fd) (T : Txt K mg) : FnOk P w K mg base CX0 1 f fd pljoin spLJoin := by
  refine F.ok scljoin (fun vs H Q E h => ?_) (fun cdv A outer s H vs Q E hr h => ?_)
  · obtain ⟨H0, x, y, o, r, U, m, rfl, _⟩ := h
    rfl
  · obtain ⟨H0, x, y, o, r, U, m, rfl, hu, hx, hy, co, cr, ow, hU, hm, hQ⟩ := h
    refine ⟨_, PSs.nox (pss_cons (ps_if (pt_cmpR op_isN (pv 0) pe_non (nomark _))
        (pss_one (ps_ret (pe_lc (own := [("_law_part", 5)]) (g := gName 5) (tt := tYes) rfl scljoin.nd (pi_list (pv 1)) (blkOk_by (N := nljoin) (sc := defScope sljoin) (by decide +kernel)) (fun _ _ _ _ _ => (pg_name (i := 5) scljoin.nd rfl (Or.inl rfl))) (fun _ _ _ _ _ => pts_nil) (fun _ _ _ _ _ => (pe_ifExp (pt_cmpR op_isN (pv 5) pe_non (nomark _)) pe_non (pe_callB (r := rSortedSS w) (cr_sortedSS rfl) rfl T.sorted boot_sorted (pa_cons (pe_callTy (r := rSetS K w) (cr_setS rfl) rfl T.set boot_set (pa_cons (pv 5) pa_nil)) pa_nil)))))))
        pss_nil)
      (pss_cons (ps_set (i := 2) scljoin.nd rfl (Or.inl rfl) (pe_lst pa_nil))
      (pss_cons (ps_for PassesOwn.never rfl (RZ.pi_zipA rfl T.zip (pa_cons (pv 0) (pa_cons (pv 1) pa_nil))) (pg_tup rfl (pgs_cons (pg_name (i := 3) scljoin.nd rfl (Or.inl rfl)) (pgs_cons (pg_name (i := 4) scljoin.nd rfl (Or.inl rfl)) pgs_nil)))
        (pss_one (ps_expr (pe_bm PySem.F.plainAttrs_list PySem.F.slot_list_append PySem.F.type_list_append mt_append (pv 2) (pa_cons (pe_ifExp (PW.pt (pw_or (pt_cmpR op_isN (pv 3) pe_non (nomark _)) (pw_or1 (pt_cmpR op_isN (pv 4) pe_non (nomark _))))) pe_non (pe_callB (cr_sortedSS rfl) rfl T.sorted boot_sorted (pa_cons (pe_callTy (cr_setS rfl) rfl T.set boot_set (pa_cons (pe_op op_cat (pv 3) (pv 4)) pa_nil)) pa_nil))) pa_nil)))))
      (pss_one (ps_ret (pv 2)))))), ?_⟩
    obtain ⟨b, ys, rfl, hb, hall⟩ := Dq.lstI (show Dq H0 y (.list (r.map setL)) from hy)
    have hb0 := hu _ _ hb
    have lr : r.length = m := by have := cr.1; unfold cR at this; rw [List.length_map] at this; exact this
    have ly : ys.length = m := by rw [DqAll.length hall, List.length_map]; exact lr
    cases o with
    | none =>
      cases hx
      refine ⟨_, rfl, rfl, _, rfl, isN_non ⟨_, rfl, b, rfl, ⟨_, SqL.of hb0⟩, fun D1 hD1 => ?_⟩⟩
      refine lc_ov (walk_list (xs := ys)) (Ov.refl hu) hD1 (fun H' e => SqL.of (e _ _ hb0)) (fun j => ((cR r).map setL).getD j .none) (by omega) (fun j H2 x H3 _ _ y => by rw [y.1]; exact Evl.Ex.refl _) ?_ ?_
      · rintro j y H2 H3 Hd hj e2 ⟨rfl, hy⟩ ed eb Qt hQt
        obtain ⟨s1, hs1, d1⟩ := hall.mapGet hy
        have ej : ((cR r).map setL).getD j .none = setL (cS s1) := getD_map _ _ (by unfold cR; rw [List.getElem?_map, hs1]; rfl)
        rw [ej] at hQt
        refine ⟨rfl, _, rfl, rfl, _, rfl, ?_⟩
        cases s1 with
        | none =>
          cases d1
          exact isN_non (hQt _ _ _ (Ov.refl ed) .non)
        | some l =>
          obtain ⟨pa, rfl, ha⟩ := setL_some d1
          obtain ⟨ll, lU⟩ := ow _ (List.mem_of_getElem? hs1) l rfl
          refine isN_ref ⟨_, rfl, pa, l, rfl, .inl (SqL.of (ed _ _ (eb _ _ ha))), lineS (by omega), fun p1 h1 => ?_⟩
          have v2 := (Ov.refl ed).out (o := SetSO w p1 l) h1
          have lj : (canon l).length < 64 := Nat.lt_of_le_of_lt (SL.nodup_len _ U (srt_canon _).nodup fun k hk => lU k (mem_canon.mp hk)) hU
          refine ⟨p1, l, rfl, upd_same, lj, fun p4 h4 => ?_⟩
          exact hQt _ _ _ (v2.new h4) (.lst upd_same (strsD _ _))
      · intro H' Hd xs v eb hxs nd hz
        have hl : ((cR r).map setL).length = ys.length := by rw [List.length_map, ly]; exact cr.1
        rw [← hl, EX2.range_getD] at hz
        have nD := hD1
        exact hQ _ _ _ (v.take nD nd hxs) (.lst upd_same (hz.ext (Evl.Ex.new nd)))
    | some a =>
      obtain ⟨c, xs, rfl, hc, hall2⟩ := Dq.lstI (show Dq H0 x (.list (a.map setL)) from hx)
      have hc0 := hu _ _ hc
      have ca := co a rfl
      have lx : xs.length = m := by rw [DqAll.length hall2, List.length_map]; exact ca.1
      refine ⟨_, rfl, rfl, _, rfl, isN_ref ⟨le_line (by simp), fun L hL => ?_⟩⟩
      have vL := (Ov.refl hu).out (o := .lst []) hL
      have nL0 := ex_none hu hL
      have eJ : newR (some a) (cR r) = jR a (cR r) := rfl
      have lJ : (jR a (cR r)).length = m := by rw [jR_len (ca.1.trans cr.1.symm)]; exact ca.1
      refine ⟨_, rfl, _, rfl, c, b, xs, ys, rfl, .inl ⟨SqL.of (vL.e _ _ hc0), SqL.of (vL.e _ _ hb0), ?_⟩⟩
      refine for_it (walk_zip (xs := xs) (ys := ys) (n := m) (by rw [lx, ly, Nat.min_self])) (fun j σ' H' => ∃ (Hd : Hp) (acc : List V) (v3 v4 : Option V), Ov H0 H H' Hd ∧ Hd L = none ∧ H' L = some (.lst acc) ∧ DqAll Hd acc (((jR a (cR r)).take j).map setL) ∧ σ' = [some (.ref c), some (.ref b), some (.ref L), v3, v4, none])
        ⟨H0, [], none, none, vL, nL0, upd_same, .nil, rfl⟩ (fun j σ H' _ h => by obtain ⟨Hd, acc, v3, v4, v, _⟩ := h; exact ⟨SqL.of (v.e _ _ hc0), SqL.of (v.e _ _ hb0)⟩) ?_ ?_
      · rintro j y σ H2 H3 hj ⟨Hd, acc, v3, v4, v, nd, hacc, hd, rfl⟩ ⟨T1, x1, y1, rfl, hT, rfl, hx1, hy1⟩
        obtain ⟨s1, hs1, d1⟩ := hall2.mapGet hx1
        obtain ⟨s2, hs2, d2⟩ := hall.mapGet hy1
        have ej : (jR a (cR r))[j]? = some (jS s1 (cS s2)) := jR_get hs1 (by unfold cR; rw [List.getElem?_map, hs2]; rfl)
        have tk : ((jR a (cR r)).take (j + 1)).map setL = ((jR a (cR r)).take j).map setL ++ [setL (jS s1 (cS s2))] := by
          rw [List.take_succ, ej, List.map_append]; rfl
        have vT := v.out (o := .tup [x1, y1]) hT
        have hacc2 := (Evl.Ex.new (o := .tup [x1, y1]) hT) _ _ hacc
        have la : acc.length ≤ m := by rw [hd.length, List.length_map, List.length_take]; omega
        refine ⟨T1, _, rfl, SqT.of upd_same, rfl, _, _, rfl, _, _, rfl, rfl, ?_⟩
        -- what is appended
        have fin : ∀ (z : V) (H4 Hd' : Hp), Ov Hd (upd H2 T1 (.tup [x1, y1])) H4 Hd' → Dq Hd' z (setL (jS s1 (cS s2))) → H4 L = some (.lst acc) ∧ acc.length < sizeLine ∧ (∃ (Hd : Hp) (acc' : List V) (v3 v4 : Option V), Ov H0 H (upd H4 L (.lst (acc ++ [z]))) Hd ∧ Hd L = none ∧ (upd H4 L (.lst (acc ++ [z]))) L = some (.lst acc') ∧ DqAll Hd acc' (((jR a (cR r)).take (j + 1)).map setL) ∧ ([some (.ref c), some (.ref b), some (.ref L), some x1, some y1, none] : L2.St) = [some (.ref c), some (.ref b), some (.ref L), v3, v4, none]) := fun z H4 Hd' v4 hz => by
          have nd' := v4.no L (by rw [hacc2]; exact fun z => nomatch z) nd
          refine ⟨v4.e _ _ hacc2, by rw [sizeLine_eq]; omega, Hd', _, _, _, (vT.trans v4).chg hL nd', nd', upd_same, ?_, rfl⟩
          rw [tk]
          exact DqAll.app (hd.ext v4.u) (.cons hz .nil)
        refine ⟨_, rfl, .inl ⟨rfl, _, SqL.of hacc2⟩, _, rfl, rfl, _, rfl, ?_⟩
        cases s1 with
        | none =>
          cases d1
          refine ifT rfl ?_
          exact ⟨L, acc, _, rfl, rfl, (fin .non _ _ (Ov.refl vT.s) .non)⟩
        | some l1 =>
          obtain ⟨pa, rfl, ha⟩ := setL_some d1
          refine isN_ref ⟨_, rfl, rfl, _, rfl, ?_⟩
          cases s2 with
          | none =>
            cases d2
            refine ifT rfl ?_
            exact ⟨L, acc, _, rfl, rfl, (fin .non _ _ (Ov.refl vT.s) .non)⟩
          | some l2 =>
            obtain ⟨pb, rfl, hb2⟩ := setL_some d2
            have hU1 := (ca.2 _ (List.mem_of_getElem? hs1)) l1 rfl
            have hl1 : l1.length ≤ 64 := Nat.le_trans (SL.nodup_len l1 U hU1.1.nodup hU1.2) (Nat.le_of_lt hU)
            obtain ⟨hl2, lU2⟩ := ow _ (List.mem_of_getElem? hs2) l2 rfl
            have l12 : (l1.map V.str).length + (l2.map V.str).length ≤ 1000 := by rw [List.length_map, List.length_map]; omega
            have vu := (v.u.trans vT.s)
            refine isN_ref ⟨_, rfl, _, rfl, pa, pb, _, _, rfl, rfl, vu _ _ ha, vu _ _ hb2, le_line l12, fun p hp => ?_⟩
            have w1 := (Ov.refl vT.s).out (o := .lst (l1.map V.str ++ l2.map V.str)) hp
            refine ⟨p, l1 ++ l2, rfl, .inl (SqL.of (by rw [List.map_append]; exact upd_same)), lineS (by rw [List.length_append]; omega), fun p2 hp2 => ?_⟩
            have w2 := w1.out (o := SetSO w p2 (l1 ++ l2)) hp2
            have c64 : (canon (l1 ++ l2)).length < 64 := Nat.lt_of_le_of_lt (SL.nodup_len _ U (srt_canon _).nodup fun k hk => (List.mem_append.mp (mem_canon.mp hk)).elim (hU1.2 k) (lU2 k)) hU
            refine ⟨p2, l1 ++ l2, rfl, upd_same, c64, fun p3 hp3 => ?_⟩
            have w3 := w2.new (o := .lst ((canon (l1 ++ l2)).map V.str)) hp3
            refine ⟨L, acc, _, rfl, rfl, fin (.ref p3) _ _ w3 ?_⟩
            rw [jS_raw]
            exact .lst upd_same (strsD _ _)
      · rintro σ H2 ⟨Hd, acc, v3, v4, v, nd, hacc, hd, rfl⟩
        rw [← lJ, List.take_length] at hd
        exact ⟨_, rfl, hQ _ _ _ (v.take hL nd hacc) (.lst upd_same (hd.ext (Evl.Ex.new nd)))⟩
end
end K07
set_option Elab.async false
set_option linter.all false
set_option maxRecDepth 100000
set_option maxHeartbeats 0
namespace K07
open PySem PySem.Spec PyProof.Rows L2 EX2 TX
open SL (setT rowT orT setL rowL orL jS jR CanS CanR newR Ins Wf dN leadT)
abbrev slleast : Stmt := top 48
def spLLeast (K : PySem.W.Frag) : Sp := fun vs H Q _ => ∃ (o : Str) (m : V) (pl : List Str) (sz : Nat) (is : List Ins) (U : List Str), vs = [.str o, m] ∧ MAt K H m pl sz is ∧ Ok7 U o pl sz is ∧
  ∀ v T H', Evl.Ex H H' → Lst U o pl sz is T → Dq H' v (.list (T.map orL)) → Q v H'
section
variable {P : Program} {w : World} {K : PySem.W.Frag} {mg : Str → Option Value} {base : Heap} {f : Addr} {fd : FuncData}
abbrev nlleast : List Str := ["_law_owner", "_law_method_here", "_law_rows", "_law_changed", "_law_at", "_law_target", "_law_later"]
abbrev plleast : List Str := ["_law_owner", "_law_method_here"]
/-- the law's own functions -/
structure LDefs (K : PySem.W.Frag) (mg : Str → Option Value) : Prop where
  begin_ : ∃ f fd, mg "_law_begin" = some (.ref f) ∧ FnP K "_law_begin" slbegin f fd
  set_of : ∃ f fd, mg "_law_set_of" = some (.ref f) ∧ FnP K "_law_set_of" slset f fd
  next : ∃ f fd, mg "_law_next" = some (.ref f) ∧ FnP K "_law_next" slnext f fd
  joined : ∃ f fd, mg "_law_joined" = some (.ref f) ∧ FnP K "_law_joined" sljoin f fd
theorem sclleast : FnScope nlleast plleast (defScope slleast) := ⟨rfl, rfl, rfl, by decide +kernel, rfl, by decide +kernel, by decide +kernel⟩
theorem ok_lleast (F : FnP K "_law_least" slleast f fd) (T : Txt K mg) (G : MGet P w K mg base) (D : LDefs K mg) : FnOk P w K mg base CX0 4 f fd plleast (spLLeast K) := by
  obtain ⟨p5, fd5, G5, b5⟩ := G.g5
  have M := G.M
  obtain ⟨fB, fdB, gB, FB⟩ := D.begin_
  have GB : FnOk P w K mg base CX0 3 fB fdB plbegin (spLBegin K) := ok_lbegin FB T G
  have bB : Binds K fdB plbegin [] := FB.bindsN fun _ _ _ _ _ _ us hl => match us, hl with | [_, _], _ => rfl
  obtain ⟨fS, fdS, gS, FS⟩ := D.set_of
  obtain ⟨fN, fdN, gN, FN⟩ := D.next
  have GN : FnOk P w K mg base CX0 2 fN fdN plnext spLNext := ok_lnext FN T FS gS
  have bN : Binds K fdN plnext [] := FN.bindsN fun _ _ _ _ _ _ us hl => match us, hl with | [_, _, _], _ => rfl
  obtain ⟨fJ, fdJ, gJ, FJ⟩ := D.joined
  have GJ : FnOk P w K mg base CX0 1 fJ fdJ pljoin spLJoin := ok_ljoin FJ T
  have bJ : Binds K fdJ pljoin [] := FJ.bindsN fun _ _ _ _ _ _ us hl => match us, hl with | [_, _], _ => rfl
  refine F.ok sclleast (fun vs H Q E h => ?_) (fun cdv A outer s H vs Q E hr h => ?_)
  · obtain ⟨o, m, pl, sz, is, U, rfl, _⟩ := h
    rfl
  · obtain ⟨o, m, pl, sz, is, U, rfl, hm, k7, hQ⟩ := h
    refine ⟨_, PSs.nox (pss_cons (ps_set (i := 2) sclleast.nd rfl (Or.inl rfl) (pe_op op_cat (pe_lst (pa_cons (pe_call GB (hr.mono (by decide)) rfl gB FB.kp bB .nil pass0 (pa_cons (pv 0) (pa_cons (pv 1) pa_nil))) pa_nil)) (pe_op op_rep (pe_lst (pa_cons pe_non pa_nil)) (pe_op op_sub (pe_callB call_len rfl T.len boot_len (pa_cons (pe_prop (pv 1) M.cl p5 G5 (hr.mono (by decide)) b5 .nil pass0 rfl) pa_nil)) pe_int))))
      (pss_cons (ps_set (i := 3) sclleast.nd rfl (Or.inl rfl) pe_bl)
      (pss_cons (ps_while PassesOwn.never (pt_val (pv 3))
        (pss_cons (ps_set (i := 3) sclleast.nd rfl (Or.inl rfl) pe_bl)
        (pss_one (ps_for PassesOwn.never rfl (pi_range1 rfl T.rng (pa_cons (pe_callB call_len rfl T.len boot_len (pa_cons (pv 2) pa_nil)) pa_nil)) (pg_name (i := 4) sclleast.nd rfl (Or.inl rfl))
          (pss_one (ps_for PassesOwn.never rfl (pi_list (pe_ifExp (pt_cmpR op_isN (pe_ix ix_list (pv 2) (pv 4) (fun _ _ => rfl)) pe_non (nomark _)) (pe_lst pa_nil) (pe_call GN (hr.mono (by decide)) rfl gN FN.kp bN .nil pass0 (pa_cons (pe_prop (pv 1) M.cl p5 G5 (hr.mono (by decide)) b5 .nil pass0 rfl) (pa_cons (pv 4) (pa_cons (pe_ix ix_list (pv 2) (pv 4) (fun _ _ => rfl)) pa_nil)))))) (pg_tup rfl (pgs_cons (pg_name (i := 5) sclleast.nd rfl (Or.inl rfl)) (pgs_cons (pg_name (i := 6) sclleast.nd rfl (Or.inl rfl)) pgs_nil)))
            (pss_one (ps_if (PW.pt (pw_and (pt_cmpR op_lt (pv 5) (pe_callB call_len rfl T.len boot_len (pa_cons (pv 2) pa_nil)) (nomark _)) (pw_and1 (pt_cmpR (op_neD hr.units) (pe_call GJ (hr.mono (by decide)) rfl gJ FJ.kp bJ .nil pass0 (pa_cons (pe_ix ix_list (pv 2) (pv 5) (fun _ _ => rfl)) (pa_cons (pv 6) pa_nil))) (pe_ix ix_list (pv 2) (pv 5) (fun _ _ => rfl)) (nomark _)))))
              (pss_cons (ps_asg (pe_call GJ (hr.mono (by decide)) rfl gJ FJ.kp bJ .nil pass0 (pa_cons (pe_ix ix_list (pv 2) (pv 5) (fun _ _ => rfl)) (pa_cons (pv 6) pa_nil))) (pg_sub (pv 2) (pv 5) set_list))
              (pss_one (ps_set (i := 3) sclleast.nd rfl (Or.inl rfl) pe_bl)))
              pss_nil))))))))
      (pss_one (ps_ret (pv 2)))))), ?_⟩
    obtain ⟨x, dx, nv, p, r, c, rfl, hx, hp, hc⟩ := hm.ex
    have hm0 := hm
    obtain ⟨ca, cs, rfl, hca, hallC⟩ := hc.tupI
    have lc : cs.length = is.length := by rw [DqAll.length hallC, List.length_map]
    have MM := SL.leads_mono k7.el k7.wf
    have hb := beginR_can k7.ho k7.hp k7.s0
    have c1 := k7.c1
    have c0 := k7.c0
    have s1000 : sz ≤ 1000 := Nat.le_trans k7.s1 (by decide)
    have oW : OkW U := ⟨k7.ok, k7.el, k7.few⟩
    refine ⟨_, rfl, _, rfl, o, .ref x, pl, sz, is, rfl, hm0, k7.s0, s1000, fun v0 H1 e1 hv0 => ?_⟩
    refine ⟨le_line (by simp), fun q1 g1 => ⟨le_line (by simp), fun q2 g2 => ?_⟩⟩
    have e2 := Evl.Ex.new (o := .lst [v0]) g1
    have e3 := Evl.Ex.new (o := .lst [.non]) g2
    have e13 := (e1.trans e2).trans e3
    refine ⟨_, rfl, x, dx, _, rfl, e13 _ _ hx, x, dx, _, .ref ca, rfl, e13 _ _ hx, rfl, _, _, rfl, .inr ⟨cs, SqT.of (e13 _ _ hca), rfl⟩, _, _, rfl, rfl, ?_⟩
    have ek : ((cs.length : Int) - 1).toNat = is.length - 1 := by rw [lc]; omega
    refine ⟨q2, _, [.non], rfl, rfl, upd_same, by rw [lc]; simp; omega, by rw [lc]; simp; omega, by rw [ek]; simp; have := le_line (n := is.length) (by omega); omega, fun q3 g3 => ?_⟩
    have er : (List.replicate ((cs.length : Int) - 1).toNat [V.non]).flatten = List.replicate (is.length - 1) V.non := by rw [ek, flat_nones]
    have e4 := Evl.Ex.new (o := .lst (List.replicate ((cs.length : Int) - 1).toNat [V.non]).flatten) g3
    rw [er] at e4 ⊢
    refine ⟨q1, q3, _, _, rfl, rfl, e4 _ _ (e3 _ _ upd_same), upd_same, by simp; have := le_line (n := is.length) (by omega); omega, fun R gR => ?_⟩
    have hHc : Evl.Ex H (upd (upd (upd H1 q1 (.lst [v0])) q2 (.lst [.non])) q3 (.lst (List.replicate (is.length - 1) V.non))) := e13.trans e4
    have hv0c := hv0.ext ((e2.trans e3).trans e4)
    generalize (upd (upd (upd H1 q1 (.lst [v0])) q2 (.lst [.non])) q3 (.lst (List.replicate (is.length - 1) V.non))) = Hc at hHc hv0c gR
    have vR := (Ov.refl (Evl.Ex.refl Hc)).out (o := .lst ([v0] ++ List.replicate (is.length - 1) V.non)) gR
    have hRR : (upd Hc R (.lst ([v0] ++ List.replicate (is.length - 1) V.non))) R = some (.lst ([v0] ++ List.replicate (is.length - 1) V.non)) := upd_same
    have eT0 : (List.replicate is.length (none : Option Rw)).set 0 (some (beginR o pl sz)) = some (beginR o pl sz) :: List.replicate (is.length - 1) none := by
      obtain ⟨n, hn⟩ : ∃ n, is.length = n + 1 := ⟨is.length - 1, by omega⟩
      rw [hn]
      rfl
    have d0 : DqAll Hc ([v0] ++ List.replicate (is.length - 1) V.non) (((List.replicate is.length (none : Option Rw)).set 0 (some (beginR o pl sz))).map orL) := by
      rw [eT0, List.map_cons, List.map_replicate]
      exact .cons hv0c (nonesD _ _)
    have g0 := SL.grow0 (U := U) (m := sz) (F := SL.leads is) c0 hb
    generalize [v0] ++ List.replicate (is.length - 1) V.non = rv0 at vR hRR d0
    generalize (List.replicate is.length (none : Option Rw)).set 0 (some (beginR o pl sz)) = T00 at d0 g0
    generalize upd Hc R (.lst rv0) = HR at vR hRR
    refine ⟨fun k σ' H' => ∃ (Hd : Hp) (rv : List V) (T : Tb) (ch : Bool) (v4 v5 v6 : Option V), Ov Hc Hc H' Hd ∧ Hd R = none ∧ H' R = some (.lst rv) ∧ DqAll Hd rv (T.map orL) ∧ (ch = true → SL.Grow U sz is.length (SL.leads is) (beginR o pl sz) T ∧ k = SL.pot U sz T + 1) ∧ (ch = false → Lst U o pl sz is T ∧ k = 0) ∧
      σ' = [some (.str o), some (.ref x), some (.ref R), some (.bl ch), v4, v5, v6], ⟨_, Hc, rv0, T00, true, none, none, none, vR, gR, hRR, d0, fun _ => ⟨g0, rfl⟩, (fun e => nomatch e), rfl⟩, ?_⟩
    rintro k σ' H' ⟨Hd, rv, T0, ch, v4, v5, v6, v, nd, hRv, hd, hch1, hch0, rfl⟩
    have nR : H R = none := ex_none hHc gR
    have hcc := hHc _ _ hca
    refine ⟨_, rfl, ch, rfl, ?_⟩
    cases ch with
    | false =>
      refine ifF rfl ⟨_, rfl, ?_⟩
      obtain ⟨lst, _⟩ := hch0 rfl
      exact hQ _ T0 _ (hHc.trans v.e) lst (.lst hRv (hd.ext v.s))
    | true =>
      refine ifT rfl ⟨_, fun _ _ h => h, ?_⟩
      obtain ⟨gr, hk⟩ := hch1 rfl
      have lT0 : T0.length = is.length := gr.good.1
      have lrv : rv.length = is.length := by rw [hd.length, List.length_map]; exact lT0
      refine ⟨_, rfl, _, _, rfl, .inl ⟨rv, SqL.of hRv, rfl⟩, _, rfl, by rw [lrv]; omega, by rw [lrv]; omega, ?_⟩
      rw [Int.toNat_natCast, lrv]
      refine for_it walk_range (fun j σ' H' => ∃ (Hd : Hp) (rv : List V) (T : Tb) (ch : Bool) (v4 v5 v6 : Option V), Ov Hc Hc H' Hd ∧ Hd R = none ∧ H' R = some (.lst rv) ∧ DqAll Hd rv (T.map orL) ∧ SL.RInv U sz is.length (SL.leads is) (beginR o pl sz) (SL.pot U sz T0) T ch j ∧
        σ' = [some (.str o), some (.ref x), some (.ref R), some (.bl ch), v4, v5, v6]) ⟨Hd, rv, T0, false, v4, v5, v6, v, nd, hRv, hd, SL.RInv.start gr, rfl⟩ (fun _ _ _ _ _ => trivial) ?_ ?_
      · rintro j xj σ2 H2 H3 hj ⟨Hd2, rv2, T2, ch2, w4, w5, w6, v2, nd2, hR2, hd2, ri, rfl⟩ ⟨rfl, rfl⟩
        show gName 4 (V.int (0 + (j : Int))) _ _ _
        rw [Int.zero_add]
        have hz2 : T2.length = is.length := ri.g.good.1
        obtain ⟨oj, hoj⟩ : ∃ oj, T2[j]? = some oj := ⟨_, List.getElem?_eq_getElem (by omega)⟩
        obtain ⟨vj, hvj, dvj⟩ := hd2.getD (i := j) (d := orL oj) (by rw [List.getElem?_map, hoj]; rfl)
        refine ⟨_, rfl, _, rfl, R, rv2, _, vj, rfl, rfl, SqL.of hR2, atI_nat (j := j) hvj, rfl, _, rfl, ?_⟩
        cases oj with
        | none =>
          cases dvj
          refine isN_non ⟨le_line (by simp), fun qe ge => ⟨qe, rfl, ⟨_, SqL.of upd_same⟩, ?_⟩⟩
          refine for_it (walk_list (xs := [])) (fun _ σ' H' => σ' = [some (.str o), some (.ref x), some (.ref R), some (.bl ch2), some (.int (j : Int)), w5, w6] ∧ H' = upd H3 qe (.lst [])) ⟨rfl, rfl⟩ (fun i σ H _ h => by rw [h.2]; exact SqL.of upd_same) (fun i _ _ _ _ hi => absurd hi (Nat.not_lt_zero _)) ?_
          rintro σ H ⟨rfl, rfl⟩
          exact ⟨Hd2, rv2, T2, ch2, _, w5, w6, v2.out ge, nd2, (Evl.Ex.new ge) _ _ hR2, hd2, ri.pass hoj, rfl⟩
        | some r0 =>
          have cr0 : CanR U sz r0 := ri.g.good.row (i := j) hoj
          obtain ⟨iw, hiw⟩ : ∃ iw, is[j]? = some iw := ⟨_, List.getElem?_eq_getElem hj⟩
          have eF : SL.leads is j r0 = SL.lead j r0 iw := by unfold SL.leads; rw [hiw]
          obtain ⟨bj, ysj, rfl, hbj, hallj⟩ := Dq.lstI (show Dq Hd2 vj (.list (r0.map setL)) from dvj)
          refine isN_ref ⟨_, rfl, x, dx, _, rfl, v2.e _ _ (hHc _ _ hx), x, dx, _, .ref ca, rfl, v2.e _ _ (hHc _ _ hx), rfl, _, rfl, _, rfl, _, rfl, R, rv2, _, _, rfl, rfl, SqL.of hR2, atI_nat (j := j) hvj, ?_⟩
          refine ⟨Hd2, .ref ca, .ref bj, is, j, iw, r0, U, sz, rfl, v2.s, .tup (v2.u _ _ hcc) (hallC.ext (hHc.trans v2.u)), hiw, dvj, cr0, s1000, k7.wf iw (List.mem_of_getElem? hiw), oW, fun ls vl H4 Hd4 v4 hvl hls hov => ?_⟩
          obtain ⟨L, zs, rfl, hL, hz⟩ := Dq.lstI hvl
          have hls' : ls.map (fun p => (p.1, cR p.2)) = SL.leads is j r0 := hls.trans eF.symm
          have lls : ls.length = (SL.leads is j r0).length := by rw [← hls', List.length_map]
          have lzs : zs.length = ls.length := by rw [hz.length, List.length_map]
          have hR3 : H3 R ≠ none := by rw [hR2]; exact fun e => nomatch e
          refine ⟨L, rfl, ⟨_, SqL.of (v4.s _ _ hL)⟩, ?_⟩
          refine for_it (walk_list (xs := zs)) (fun i σ' H' => ∃ (Hd : Hp) (rv : List V) (T : Tb) (ch : Bool) (u5 u6 : Option V), Ov Hc Hc H' Hd ∧ Evl.Ex Hd4 Hd ∧ Hd R = none ∧ H' R = some (.lst rv) ∧ DqAll Hd rv (T.map orL) ∧ SL.RIn U sz is.length (SL.leads is) (beginR o pl sz) (SL.pot U sz T0) T ch j r0 ((SL.leads is j r0).take i) ∧
            σ' = [some (.str o), some (.ref x), some (.ref R), some (.bl ch), some (.int (j : Int)), u5, u6]) ⟨Hd4, rv2, T2, ch2, w5, w6, v2.trans v4, Evl.Ex.refl _, v4.no R hR3 nd2, v4.e _ _ hR2, hd2.ext v4.u, by rw [List.take_zero]; exact ri.enter hoj, rfl⟩ (fun i σ H _ h => by obtain ⟨Hd, rv, T, ch, u5, u6, v, e, _⟩ := h; exact SqL.of (v.s _ _ (e _ _ hL))) ?_ ?_
          · rintro i y σ5 H5 H6 hi ⟨Hd6, rv6, T6, ch6, u5, u6, v6, e46, nd6, hR6, hd6, rin, rfl⟩ ⟨rfl, hy⟩
            obtain ⟨pp, hpp, dpp⟩ := hz.mapGet hy
            obtain ⟨t, sr⟩ := pp
            have hpl : (SL.leads is j r0)[i]? = some (t, cR sr) := by rw [← hls', List.getElem?_map, hpp]; rfl
            have hmem : (t, cR sr) ∈ SL.leads is j r0 := List.mem_of_getElem? hpl
            have hcr : CanR U sz (cR sr) := MM.can hj cr0 _ hmem
            have etake : (SL.leads is j r0).take (i + 1) = (SL.leads is j r0).take i ++ [(t, cR sr)] := by rw [List.take_succ, hpl]; rfl
            have osr := hov _ (List.mem_of_getElem? hpp)
            obtain ⟨a, vs, rfl, ha, hall⟩ := Dq.tupI (show Dq Hd4 y (.tuple [dN t, rowL sr]) from dpp)
            match hall with
            | .cons (.int _) (.cons (x := vrow) hrow .nil) =>
            have ha6 := v6.s _ _ (e46 _ _ ha)
            have hrow6 := hrow.ext e46
            have lrv6 : rv6.length = is.length := by rw [hd6.length, List.length_map]; exact rin.g.good.1
            refine ⟨a, _, rfl, SqT.of ha6, rfl, _, _, rfl, _, _, rfl, rfl, ?_⟩
            refine ⟨_, rfl, _, rfl, _, rv6.length, rfl, .inl ⟨rv6, SqL.of hR6, rfl⟩, _, _, rfl, rfl, _, rfl, ?_⟩
            rw [lrv6]
            by_cases hlt : t < is.length
            · refine ifT (decide_eq_true (by exact Int.ofNat_lt.mpr hlt)) ?_
              have hT6 : t < T6.length := by rw [rin.g.good.1]; exact hlt
              obtain ⟨ot, hot⟩ : ∃ ot, T6[t]? = some ot := ⟨_, List.getElem?_eq_getElem hT6⟩
              obtain ⟨vo, hvo, dvo⟩ := hd6.getD (i := t) (d := orL ot) (by rw [List.getElem?_map, hot]; rfl)
              have hoc : ∀ a, ot = some a → CanR U sz a := fun a ea => rin.g.good.row (i := t) (by rw [hot, ea])
              refine ⟨_, rfl, _, rfl, R, rv6, _, vo, rfl, rfl, SqL.of hR6, atI_nat (j := t) hvo, _, rfl, ?_⟩
              refine ⟨Hd6, vo, vrow, ot, sr, U, sz, rfl, v6.s, dvo, hrow6, hoc, hcr, osr, k7.few, s1000, fun v1 H7 Hd7 f1 hv1 => ?_⟩
              refine ⟨_, rfl, _, rfl, R, rv6, _, vo, rfl, rfl, SqL.of (f1.e _ _ hR6), atI_nat (j := t) hvo, ?_⟩
              have sh1 : SeqAt.shaped (rowL (newR ot (cR sr))) = true := SL.shaped_orL (o := some (newR ot (cR sr))) k7.ok fun r e s hs => by cases e; exact ((SL.newR_can hoc hcr).2 s hs).over
              have sh2 : SeqAt.shaped (orL ot) = true := SL.shaped_orL k7.ok fun r e s hs => ((hoc r e).2 s hs).over
              refine ⟨rowL (newR ot (cR sr)), orL ot, dp_q (hv1.ext f1.s) (SeqAt.canLay_of_shaped sh1), dp_q (dvo.ext (f1.u.trans f1.s)) (SeqAt.canLay_of_shaped sh2), sh1, sh2, _, rfl, ?_⟩
              have eqq := SL.eqv_orL (some (newR ot (cR sr))) ot
              rw [show PyData.eqv (rowL (newR ot (cR sr))) (orL ot) = decide (some (newR ot (cR sr)) = ot) from eqq]
              have hR6n : H6 R ≠ none := by rw [hR6]; exact fun e => nomatch e
              have nd7 := f1.no R hR6n nd6
              by_cases hne : some (newR ot (cR sr)) = ot
              · refine ifF (by rw [decide_eq_true hne]; rfl) ?_
                exact ⟨Hd7, rv6, T6, ch6, _, _, v6.trans f1, e46.trans f1.u, nd7, f1.e _ _ hR6, hd6.ext f1.u, by rw [etake]; exact rin.same (fun _ => ⟨ot, hot, hne⟩) hcr, rfl⟩
              · refine ifT (by rw [decide_eq_false hne]; rfl) ?_
                refine ⟨_, rfl, _, rfl, R, rv6, _, vo, rfl, rfl, SqL.of (f1.e _ _ hR6), atI_nat (j := t) hvo, _, rfl, ?_⟩
                refine ⟨Hd7, vo, vrow, ot, sr, U, sz, rfl, f1.s, dvo.ext f1.u, hrow6.ext f1.u, hoc, hcr, osr, k7.few, s1000, fun v8 H8 Hd8 f2 hv8 => ?_⟩
                have f12 := f1.trans f2
                have nd8 := f12.no R hR6n nd6
                refine ⟨_, rfl, _, rfl, R, rv6, _, t, rfl, rfl, f12.e _ _ hR6, ?_, ?_⟩
                · unfold L2.ixN
                  rw [if_pos (Int.natCast_nonneg _), if_pos (Int.ofNat_lt.mpr (by omega))]
                  rfl
                refine ⟨Hd8, rv6.set t v8, T6.set t (some (newR ot (cR sr))), true, _, _, (v6.trans f12).chg gR nd8, e46.trans f12.u, nd8, upd_same, ?_, ?_, rfl⟩
                · rw [List.map_set]
                  exact DqAll.setA (hd6.ext f12.u) hv8 t
                · rw [etake]
                  exact rin.step MM hj cr0 hmem hlt hot hne
            · refine ifF (decide_eq_false (fun h => hlt (Int.ofNat_lt.mp h))) ?_
              exact ⟨Hd6, rv6, T6, ch6, _, _, v6, e46, nd6, hR6, hd6, by rw [etake]; exact rin.same (fun h => absurd h hlt) hcr, rfl⟩
          · rintro σ5 H5 ⟨Hd6, rv6, T6, ch6, u5, u6, v6, e46, nd6, hR6, hd6, rin, rfl⟩
            rw [lzs, lls, List.take_length] at rin
            exact ⟨Hd6, rv6, T6, ch6, _, _, _, v6, nd6, hR6, hd6, rin.leave, rfl⟩
      · rintro σ2 H2 ⟨Hd2, rv2, T2, ch2, w4, w5, w6, v2, nd2, hR2, hd2, ri, rfl⟩
        cases ch2 with
        | true => exact ⟨SL.pot U sz T2 + 1, by have := ri.lt rfl; omega, Hd2, rv2, T2, true, _, _, _, v2, nd2, hR2, hd2, fun _ => ⟨ri.g, rfl⟩, (fun e => nomatch e), rfl⟩
        | false => exact ⟨0, by omega, Hd2, rv2, T2, false, _, _, _, v2, nd2, hR2, hd2, (fun e => nomatch e), fun _ => ⟨ri.least, rfl⟩, rfl⟩
end
end K07
set_option Elab.async false
set_option linter.all false
set_option maxRecDepth 100000
set_option maxHeartbeats 0
namespace K07
open PySem PySem.Spec PyProof.Rows L2 EX2 TX
open SL (setT rowT orT setL rowL orL jS jR CanS CanR newR Ins Wf dN leadT)
abbrev slshown : Stmt := top 49
def spLShown : Sp := fun vs H Q _ => ∃ (x : V) (T : Tb), vs = [x] ∧ Dq H x (.list (T.map orL)) ∧ T.length ≤ 1000 ∧ (∀ r, some r ∈ T → r.length ≤ 1000) ∧ ∀ v H', Evl.Ex H H' → Dq H' v (.tuple (T.map orT)) → Q v H'
/-- tuple(..) -/
abbrev rTup (K : PySem.W.Frag) : List V → Hp → VK → Prop := fun xs H Q => ∃ p ys, xs = [V.ref p] ∧ ((SqL K H p ys ∧ ∀ l, H l = none → Q (V.ref l) (upd H l (.tup ys))) ∨ SqT K H p ys ∧ Q (.ref p) H)
section
variable {P : Program} {w : World} {K : PySem.W.Frag} {mg : Str → Option Value} {base : Heap} {f : Addr} {fd : FuncData}
abbrev nlshown : List Str := ["_law_rows", "_law_found", "_law_row", "_law_part"]
theorem sclshown : FnScope nlshown ["_law_rows"] (defScope slshown) := ⟨rfl, rfl, rfl, by decide +kernel, rfl, by decide +kernel, by decide +kernel⟩
theorem ok_lshown (F : FnP K "_law_shown" slshown f fd) (T : Txt K mg) : FnOk P w K mg base CX0 1 f fd ["_law_rows"] spLShown := by
  refine F.ok sclshown (fun vs H Q E h => ?_) (fun cdv A outer s H vs Q E hr h => ?_)
  · obtain ⟨x, T0, rfl, _⟩ := h
    rfl
  · obtain ⟨x, T0, rfl, hx, hT, hrs, hQ⟩ := h
    refine ⟨_, PSs.nox (pss_cons (ps_set (i := 1) sclshown.nd rfl (Or.inl rfl) (pe_lst pa_nil))
      (pss_cons (ps_for PassesOwn.never rfl (pi_list (pv 0)) (pg_name (i := 2) sclshown.nd rfl (Or.inl rfl))
        (pss_one (ps_expr (pe_bm PySem.F.plainAttrs_list PySem.F.slot_list_append PySem.F.type_list_append mt_append (pv 1) (pa_cons (pe_ifExp (pt_cmpR op_isN (pv 2) pe_non (nomark _)) pe_non (pe_callTy call_tuple_of rfl T.tup boot_tuple (pa_cons (pe_lc (own := [("_law_part", 3)]) (g := gName 3) (tt := tYes) rfl sclshown.nd (pi_list (pv 2)) (blkOk_by (N := nlshown) (sc := defScope slshown) (by decide +kernel)) (fun _ _ _ _ _ => (pg_name (i := 3) sclshown.nd rfl (Or.inl rfl))) (fun _ _ _ _ _ => pts_nil) (fun _ _ _ _ _ => (pe_ifExp (pt_cmpR op_isN (pv 3) pe_non (nomark _)) pe_non (pe_callTy (r := rTup K) call_tuple_of rfl T.tup boot_tuple (pa_cons (pv 3) pa_nil))))) pa_nil))) pa_nil)))))
      (pss_one (ps_ret (pe_callTy call_tuple_of rfl T.tup boot_tuple (pa_cons (pv 1) pa_nil)))))), ?_⟩
    obtain ⟨b, ys, rfl, hb, hall⟩ := Dq.lstI hx
    have ly : ys.length = T0.length := by rw [hall.length, List.length_map]
    refine ⟨le_line (by simp), fun L hL => ?_⟩
    have vL := (Ov.refl (Evl.Ex.refl H)).out (o := .lst []) hL
    refine ⟨_, rfl, b, rfl, ⟨_, SqL.of (vL.e _ _ hb)⟩, ?_⟩
    refine for_it (walk_list (xs := ys)) (fun j σ' H' => ∃ (Hd : Hp) (acc : List V) (v2 : Option V), Ov H H H' Hd ∧ Hd L = none ∧ H' L = some (.lst acc) ∧ DqAll Hd acc ((T0.take j).map orT) ∧ σ' = [some (.ref b), some (.ref L), v2, none])
      ⟨H, [], none, vL, hL, upd_same, .nil, rfl⟩ (fun j σ H' _ h => by obtain ⟨Hd, acc, v2, v, _⟩ := h; exact SqL.of (v.e _ _ hb)) ?_ ?_
    · rintro j y σ H2 H3 hj ⟨Hd, acc, v2, v, nd, hacc, hd, rfl⟩ ⟨rfl, hy⟩
      obtain ⟨oj, hoj, dj⟩ := hall.mapGet hy
      have tk : (T0.take (j + 1)).map orT = (T0.take j).map orT ++ [orT oj] := by
        rw [List.take_succ, hoj, List.map_append]; rfl
      have la : acc.length ≤ 1000 := by rw [hd.length, List.length_map, List.length_take]; omega
      have fin : ∀ (z : V) (H4 Hd' : Hp), Ov Hd H3 H4 Hd' → Dq Hd' z (orT oj) → H4 L = some (.lst acc) ∧ acc.length < sizeLine ∧ (∃ (Hd : Hp) (acc' : List V) (v2 : Option V), Ov H H (upd H4 L (.lst (acc ++ [z]))) Hd ∧ Hd L = none ∧ (upd H4 L (.lst (acc ++ [z]))) L = some (.lst acc') ∧ DqAll Hd acc' ((T0.take (j + 1)).map orT) ∧ ([some (.ref b), some (.ref L), some y, none] : L2.St) = [some (.ref b), some (.ref L), v2, none]) := fun z H4 Hd' v4 hz => by
        have nd' := v4.no L (by rw [hacc]; exact fun z => nomatch z) nd
        refine ⟨v4.e _ _ hacc, by rw [sizeLine_eq]; omega, Hd', _, _, (v.trans v4).chg hL nd', nd', upd_same, ?_, rfl⟩
        rw [tk]
        exact DqAll.app (hd.ext v4.u) (.cons hz .nil)
      refine ⟨_, rfl, .inl ⟨rfl, _, SqL.of hacc⟩, _, rfl, rfl, _, rfl, ?_⟩
      cases oj with
      | none =>
        cases dj
        exact isN_non ⟨L, acc, _, rfl, rfl, fin .non _ _ (Ov.refl v.s) .non⟩
      | some r =>
        obtain ⟨c, xs, rfl, hc, hallR⟩ := Dq.lstI (show Dq H y (.list (r.map setL)) from dj)
        have lr : xs.length = r.length := by rw [hallR.length, List.length_map]
        have lr1 := hrs r (List.mem_of_getElem? hoj)
        have hc3 := v.e _ _ hc
        refine isN_ref ⟨_, rfl, c, rfl, ⟨_, SqL.of hc3⟩, fun D1 hD1 => ?_⟩
        refine lc_ov (walk_list (xs := xs)) (Ov.refl v.s) hD1 (fun H' e => SqL.of (e _ _ hc3)) (fun i => (r.map setT).getD i .none) (by omega) (fun i H2 x H3 _ _ y => by rw [y.1]; exact Evl.Ex.refl _) ?_ ?_
        · rintro i z H5 H6 He hi e5 ⟨rfl, hz⟩ ed eb Qt hQt
          obtain ⟨s1, hs1, d1⟩ := hallR.mapGet hz
          have ej : (r.map setT).getD i .none = setT s1 := getD_map _ _ hs1
          rw [ej] at hQt
          refine ⟨rfl, _, rfl, rfl, _, rfl, ?_⟩
          cases s1 with
          | none =>
            cases d1
            exact isN_non (hQt _ _ _ (Ov.refl ed) .non)
          | some l =>
            obtain ⟨pa, rfl, ha⟩ := setL_some d1
            have ha6 := ed _ _ (eb _ _ (v.u _ _ ha))
            refine isN_ref ⟨_, rfl, pa, _, rfl, .inl ⟨SqL.of ha6, fun p hp => ?_⟩⟩
            exact hQt _ _ _ ((Ov.refl ed).new hp) (.tup upd_same (strsD _ _))
        · intro H' He zs v5 eb hzs nD hz
          have hl : (r.map setT).length = xs.length := by rw [List.length_map, lr]
          rw [← hl, EX2.range_getD] at hz
          refine ⟨D1, zs, rfl, .inl ⟨SqL.of hzs, fun p hp => ?_⟩⟩
          refine ⟨L, acc, _, rfl, rfl, fin (.ref p) _ _ (v5.new hp) (.tup upd_same (hz.ext (Evl.Ex.new (ex_none v5.s hp))))⟩
    · rintro σ H2 ⟨Hd, acc, v2, v, nd, hacc, hd, rfl⟩
      rw [ly, List.take_length] at hd
      refine ⟨_, rfl, L, acc, rfl, .inl ⟨SqL.of hacc, fun p hp => ?_⟩⟩
      have e1 := Evl.Ex.new (o := .tup acc) hp
      exact hQ _ _ (v.e.trans e1) (.tup upd_same (hd.ext (v.s.trans e1)))
end
end K07
set_option Elab.async false
set_option linter.all false
set_option maxRecDepth 100000
set_option maxHeartbeats 4000000
/-! a def's code object known; the end of a law with tables of code objects, where no repr runs around -/
namespace EX2
open PySem PySem.Spec PyProof.Rows L2 LamX
section
variable {P : Program} {w : World} {K : PySem.W.Frag} {mg : Str → Option Value} {base : Heap}
/-- the code of the def at f -/
def CodeAt (K : PySem.W.Frag) (f : Addr) (cdv : Value) : Prop := ∃ (oc : Value) (od : Option Addr) (fd : FuncData) (osl : Array (Option Value)), K.lookup f = some ⟨oc, od, .func fd, osl⟩ ∧ fd.code = cdv
theorem code_of {h : Heap} (X : K.In h) (G : h.Ns mainGlobals mg) {x : Str} {f c T : Addr} {cdv : Value} (hf : mg x = some (.ref f)) (ht : PySem.W.tabIn K x = some (c, T)) (lk : CodeAt K f cdv) : cdv = .ref c := by
  obtain ⟨oc, od, fd, osl, lk, rfl⟩ := lk
  unfold PySem.W.tabIn at ht
  split at ht
  · rename_i f2 h2
    have e1 := PySem.W.mg_of X G h2
    rw [hf] at e1
    cases e1
    split at ht
    · rename_i hfo
      rw [lk] at hfo
      cases hfo
      split at ht
      · rename_i c2 hc
        rw [hc]
        split at ht
        · split at ht
          · cases ht; rfl
          · cases ht
        · cases ht
      · cases ht
    · cases ht
  · cases ht
/-- THE RULE for a def, its code told -/
theorem okGC {x qual : Str} {params : Arguments} {body : List Stmt} {scope : Scope} {dvs : List V} {kws : List (Str × V)} {f : Addr} {fd : FuncData} {N ps : List Str} {k : Nat} {sp : Sp} (F : FunD K x qual params body scope dvs kws f fd) (S : FnScope N ps scope) (len : ∀ vs H Q E, sp vs H Q E → vs.length = ps.length)
    (hbody : ∀ (cdv : Value) (A : Around) (outer : List Env) (s : Shared) (H : Hp) (vs : List V) (Q : VK) (E : XK), CodeAt K f cdv → A.guards = some [] → Room k (A.deeper (envOfC qual scope s.heap.objs.size f cdv)) → sp vs H Q E →
      ∃ t, PSs (cxOf CX0 P w K mg base N qual scope f cdv A outer s H E) body t ∧ t { nx := fun _ H' => Q .non H', rt := Q } (start N vs) H) : FnOkG P w K mg base (k + 1) f fd ps sp := by
  refine ⟨len, fun A outer s H args us vs Q E hg hr e0 hb r hsp => ?_⟩
  obtain ⟨oc, od, dV, kV, doc, pm, an, cdv, ct, osl, rfl, lk, hcd, _, _⟩ := F.ex
  have hl := len _ _ _ _ hsp
  have KX : K.In s.heap := e0.mod.kin.keeps fun b o e => (e0.bs b o e).1
  have lim : s.heap.NoLimit := e0.mod.nolimit.keeps fun b o e => (e0.bs b o e).1
  have hkind : ∀ y ∈ ps.zip us, scope.names.lookup y.1 = some .local ∨ (scope.names.lookup y.1 = some .cell ∧ ((cellsFrom (s.heap.objs.size + 1) scope.names []).lookup y.1).isSome = true) := fun ⟨n, v⟩ hy => by
    rcases S.par n (List.of_mem_zip hy).1 with q | q
    · exact .inl q
    · exact .inr ⟨q, PySem.W.cellsFrom_some _ _ _ (.inl q)⟩
  refine codeAny_call_function hr.depth (KX _ _ lk) rfl S.co S.gen rfl (PySem.W.codeRec_of KX hcd) (hb _ _ _ _ ?_)
  refine wpAny_newFunctionEnv_cells S.kind hkind fun env he s1 x => ?_
  subst he
  refine ⟨lim.keeps x.toInCall.keep, codeAny_func ?_⟩
  obtain ⟨t, ht, hq⟩ := hbody cdv A outer s H vs Q E ⟨_, _, _, _, lk, rfl⟩ hg (hr.deeper _) hsp
  have I : Inv (cxOf CX0 P w K mg base N qual scope f cdv A outer s H E) [] (start N vs) H s1 := inv_start S hr.hd e0 hl r x
  refine wpAny_mono (ht.run [] s1 (start N vs) H _ I hq) (fun fl s' hs => ?_) fun e s' hs => hs
  have fin : ∀ {σ' : L2.St} {H' : Hp} {v : V} {u : Value}, Inv (cxOf CX0 P w K mg base N qual scope f cdv A outer s H E) [] σ' H' s' → RelV v u → Q v H' → CE outer P w H s Q u s' :=
    fun {σ' H' v u} J rv q => ⟨v, H', J.os, J.bare, J.base, J.hok, rv, q⟩
  cases fl with
  | ret u =>
    obtain ⟨v, σ', H', J, rv, q⟩ := hs
    exact fin J rv q
  | next =>
    obtain ⟨σ', H', J, q⟩ := hs
    exact fin (v := V.non) (u := Value.none) J rfl q
  | brk =>
    obtain ⟨_, _, _, q⟩ := hs
    exact False.elim q
  | cont =>
    obtain ⟨_, _, _, q⟩ := hs
    exact False.elim q
end
section
variable {P : Program} {w : World} {K : PySem.W.Frag} {mg mb : Str → Option Value} {k : Nat} {fa a cC cT : Addr} {fd : FuncData} {x : Str} {sp : Sp} {s₁ : Shared} {vs : List Value} {ns : List Int}
/-- the law called; the table at cT (of the code object cC) is empty, and may grow -/
theorem law_coreGT (KX : K.In s₁.heap) (hns : s₁.heap.Ns mainGlobals mg) (hb : s₁.heap.Ns builtinsNs mb) (hbb : ∀ x : Str, x ≠ "__name__" → mb x = bootBuiltins x) (hlim : s₁.heap.NoLimit) (hg : s₁.gens = #[])
    (hT : s₁.heap.get? cT = some { cls := .none, data := .fields #[] }) (nT : K.lookup cT = none) (C : PySem.W.CodeHd s₁.heap cC cT)
    (hbm : ∃ (bm : Addr) (ob : Obj), mg "__builtins__" = some (.ref bm) ∧ bm ≠ builtinsNs ∧ s₁.heap.get? bm = some ob ∧ ob.cls = .type "module" ∧ ob.dict = some builtinsNs ∧ ob.data = .plain)
    (ha : s₁.heap.get? a = some { cls := .type "list", data := .seq vs.toArray }) (hr : Room k callerA)
    (F : ∀ base : Heap, K.In base → base.Ns mainGlobals mg → TabB base mg cC cT → FnOkG P w K mg base k fa fd [x] sp) (hbind : ∀ (s : Shared) (u : Value), BindsTo s fd ⟨[u], []⟩ [(x, u)])
    (hsp : ∀ H : Hp, H cT = some (.tbl #[]) → SqL K H a (ns.map V.int) → sp [.ref a] H (fun v _ => v = .bl true) fun _ _ _ => False)
    (H : Hp) (hH : H cT = some (.tbl #[])) (hO : ∀ b, b ≠ cT → H b = none ∨ ∃ o xs, H b = some (.frz o (.lst xs))) (hS : SqL K H a (ns.map V.int)) (hok : HOk P w H s₁.heap) (hA : ∀ b, H b ≠ none → b = a ∨ b = cT) (hK : H a ≠ none → K.lookup a = none) :
    codeAny (model P w) callerA (.call (.ref fa) ⟨[.ref a], []⟩) (fun r s' => r = .ok (.ret (.bool true)) ∧ OldK s₁.heap s'.heap ∧ s'.os = s₁.os ∧ AllBare s'.gens) s₁ := by
  have free : ∀ {b : Addr} {o : Obj}, s₁.heap.get? b = some o → (∀ vs n, o.data ≠ .seq vs n) → o.data ≠ .fields #[] → H b = none := fun {b o} e d d2 => Classical.byContradiction fun z => by
    rcases hA b z with q | q
    · rw [q, ha] at e; cases e; exact d _ _ rfl
    · rw [q, hT] at e; cases e; exact d2 rfl
  have names : ∀ {b : Addr} {m : Str → Option Value}, s₁.heap.Ns b m → (hidT s₁.heap H).Ns b m := fun {b m} ⟨o, es, ep, e, d, r⟩ => ⟨o, es, ep, hidT_get e (free e (fun vs n q => by rw [d] at q; cases q) fun q => by rw [d] at q; cases q), d, r⟩
  have kin : K.In (hidT s₁.heap H) := fun b o e => hidT_get (KX b o e) (Classical.byContradiction fun z => by
    rcases hA b z with q | q
    · rw [q] at e z; rw [hK z] at e; cases e
    · rw [q, nT] at e; cases e)
  have M : Mod K mg (hidT s₁.heap H) := ⟨kin, names hns, ⟨mb, names hb, hbb⟩, let ⟨mc, h1, h2⟩ := hlim; ⟨mc, names h1, h2⟩⟩
  have TB : TabB (hidT s₁.heap H) mg cC cT := by
    refine ⟨?_, ?_, fun z => ?_⟩
    · obtain ⟨o, us, file, tf, flags, tg, inF, text, tt, e1, r1, r2, r3, r⟩ := C
      refine ⟨o, us, file, tf, flags, tg, inF, text, tt, hidT_get e1 (free e1 (fun vs n q => by rw [r2] at q; cases q) fun q => ?_), r1, r2, r3, r⟩
      rw [r2] at q
      cases q
      simp at r3
    · obtain ⟨bm, ob, b1, b2, b3, b4, b5, b6⟩ := hbm
      refine ⟨bm, ob, b1, b2, fun q => ?_, fun q => ?_, hidT_get b3 (free b3 (fun vs n q => by rw [b6] at q; cases q) fun q => by rw [b6] at q; cases q), b4, b5, b6⟩
      · obtain ⟨o, es, ep, e, hd, _⟩ := hns
        rw [q, e] at b3
        cases b3
        rw [hd] at b6
        cases b6
      · rw [q, hT] at b3
        cases b3
        cases b6
    · obtain ⟨o, es, ep, e, hd, _⟩ := hns
      rw [z, hT] at e
      cases e
      cases hd
  have e0 : Env0 P w K mg (hidT s₁.heap H) callerA [] s₁ H := ⟨rfl, M, fun b o e => of_hidT e, Nat.le_of_eq (hidT_size _ _), trivial, fun b hb => absurd (show b ∈ ([] : List Addr) from hb) (by simp), hok, .of_eq hg⟩
  refine codeAny_mono ((F _ kin (names hns) TB).run callerA [] s₁ H ⟨[.ref a], []⟩ [.ref a] [.ref a] _ _ rfl hr e0 (hbind s₁ (.ref a)) (.cons rfl .nil) (hsp H hH hS)) fun r s' h => ?_
  match r, h with
  | .error e, h => exact False.elim h
  | .ok (.ret u), h =>
    obtain ⟨v, H', os, bare, un, hok', r', q⟩ := h
    obtain rfl : v = .bl true := q
    obtain rfl : u = Value.bool true := r'
    have key : ∀ b o, b ≠ cT → s₁.heap.get? b = some o → s'.heap.get? b = some o := fun b o nb e => by
      rcases hO b nb with z | ⟨ob, xs, z⟩
      · exact un.keep b o e z (fun z => absurd (show b ∈ ([] : List Addr) from z) (by simp)) (by simp)
      · obtain ⟨e1, _⟩ := hok b _ z
        obtain ⟨e2, _⟩ := hok' b _ (un.frzs b ob _ z)
        rw [e] at e1
        cases e1
        exact e2
    obtain ⟨more, zm⟩ := un.tbls cT #[] hH
    have hm : s'.heap.get? cT = some { cls := .none, data := .fields (#[] ++ more) } := hok' cT _ zm
    refine ⟨rfl, ⟨fun b o e => ?_, fun b o e => ?_⟩, os, bare⟩
    · by_cases hb : b = cT
      · rw [hb] at e ⊢
        rw [hT] at e
        cases e
        exact .inr (.inl ⟨(C.tab hT).isCodeTable, rfl, #[], more, rfl, hm⟩)
      · exact .inl (key b o hb e)
    · by_cases hb : b = cT
      · rw [hb]
        exact ⟨_, hm⟩
      · exact ⟨o, key b o hb e⟩
theorem law_callGT (KX : K.In s₁.heap) (hns : s₁.heap.Ns mainGlobals mg) (hb : s₁.heap.Ns builtinsNs mb) (hbb : ∀ x : Str, x ≠ "__name__" → mb x = bootBuiltins x) (hlim : s₁.heap.NoLimit) (hg : s₁.gens = #[])
    (hT : s₁.heap.get? cT = some { cls := .none, data := .fields #[] }) (nT : K.lookup cT = none) (C : PySem.W.CodeHd s₁.heap cC cT)
    (hbm : ∃ (bm : Addr) (ob : Obj), mg "__builtins__" = some (.ref bm) ∧ bm ≠ builtinsNs ∧ s₁.heap.get? bm = some ob ∧ ob.cls = .type "module" ∧ ob.dict = some builtinsNs ∧ ob.data = .plain)
    (ha : s₁.heap.get? a = some { cls := .type "list", data := .seq vs.toArray }) (hi : IntsAre vs ns) (hl : ns.length ≤ sizeLine) (hr : Room k callerA)
    (F : ∀ base : Heap, K.In base → base.Ns mainGlobals mg → TabB base mg cC cT → FnOkG P w K mg base k fa fd [x] sp) (hbind : ∀ (s : Shared) (u : Value), BindsTo s fd ⟨[u], []⟩ [(x, u)])
    (hsp : ∀ H : Hp, H cT = some (.tbl #[]) → SqL K H a (ns.map V.int) → sp [.ref a] H (fun v _ => v = .bl true) fun _ _ _ => False) :
    codeAny (model P w) callerA (.call (.ref fa) ⟨[.ref a], []⟩) (fun r s' => r = .ok (.ret (.bool true)) ∧ OldK s₁.heap s'.heap ∧ s'.os = s₁.os ∧ AllBare s'.gens) s₁ := by
  have rv := vals_ints hi
  have naT : a ≠ cT := fun z => by
    rw [z, hT] at ha
    cases congrArg Obj.data (Option.some.inj ha)
  cases hk : K.lookup a with
  | some o =>
    have e := KX a o hk
    rw [ha] at e
    cases e
    refine law_coreGT KX hns hb hbb hlim hg hT nT C hbm ha hr F hbind hsp (fun b => if b = cT then some (.tbl #[]) else none) (if_pos rfl) (fun b nb => .inl (if_neg nb)) (.inr ⟨_, vs.toArray, _, hk, rfl, rfl, rfl, by rw [List.size_toArray, hi.length]; exact hl, by simpa using rv⟩) (fun b u z => ?_) (fun b z => ?_) fun z => absurd (if_neg naT) z
    · by_cases hb : b = cT
      · have z' := (if_pos hb).symm.trans z
        cases z'
        rw [hb]
        exact hT
      · have z' := (if_neg hb).symm.trans z
        cases z'
    · by_cases hb : b = cT
      · exact .inr hb
      · exact absurd (if_neg hb) z
  | none =>
    refine law_coreGT KX hns hb hbb hlim hg hT nT C hbm ha hr F hbind hsp (fun b => if b = cT then some (.tbl #[]) else if b = a then some (.frz { cls := .type "list", data := .seq vs.toArray } (.lst (ns.map V.int))) else none) (if_pos rfl) (fun b nb => ?_) (.inl (.inr ⟨{ cls := .type "list", data := .seq vs.toArray }, (if_neg naT).trans (if_pos rfl)⟩)) (fun b u z => ?_) (fun b z => ?_) fun _ => hk
    · by_cases hb : b = a
      · exact .inr ⟨_, _, (if_neg nb).trans (if_pos hb)⟩
      · exact .inl ((if_neg nb).trans (if_neg hb))
    · by_cases hb : b = cT
      · have z' := (if_pos hb).symm.trans z
        cases z'
        rw [hb]
        exact hT
      · have z1 := (if_neg hb).symm.trans z
        by_cases hb2 : b = a
        · have z' := (if_pos hb2).symm.trans z1
          cases z'
          rw [hb2]
          exact ⟨ha, by rw [List.length_map]; exact hl, vs, _, rv, ha⟩
        · have z' := (if_neg hb2).symm.trans z1
          cases z'
    · by_cases hb : b = cT
      · exact .inr hb
      · by_cases hb2 : b = a
        · exact .inl hb2
        · exact absurd ((if_neg hb).trans (if_neg hb2)) z
end
/-- the end of a law with one table of code objects, where no repr runs around; y: the def whose table it is -/
theorem walk_ofGT {l : PySem.W.OpenLaw} {n k : Nat} {q : Program} {loose : List Str} {XP : (Str → Option Value) → Heap → Prop} {YP : World → Heap → Prop} {d dy : DefRec} {x y : Str}
    (hn : l.most = some n) (hn2 : n ≤ sizeLine) (hdf : d.params.defaults = []) (hr : Room k callerA) (hrec : (PyProof.Rows.recsOf q).find? (fun e => e.name == y) = some dy)
    (F : ∀ (w : World) (mg : Str → Option Value) (fa : Addr) (h : Heap), YP w h → h.Ns mainGlobals mg → mg d.name = some (.ref fa) →
      ∃ (K : PySem.W.Frag) (fd : FuncData) (sp : Sp) (cC cT : Addr), K.In h ∧ PySem.W.tabIn K y = some (cC, cT) ∧ K.lookup cT = none ∧ (∀ (s : Shared) (u : Value), BindsTo s fd ⟨[u], []⟩ [(x, u)]) ∧
        (∀ (H : Hp) (a : Addr) (ns : List Int), ns.length ≤ n → H cT = some (.tbl #[]) → SqL K H a (ns.map V.int) → sp [.ref a] H (fun v _ => v = .bl true) fun _ _ _ => False) ∧
        ∀ base : Heap, K.In base → base.Ns mainGlobals mg → TabB base mg cC cT → FnOkG l.prog w K mg base k fa fd [x] sp) :
    PySem.W.WalkO q loose XP YP l.row.toRowW d [] (fun f vs => PySem.call f vs) := by
  refine Att.attach_call hn hdf fun w s₀ s₁ mg mb fa o pm cd doc a vs ns G Y ho hd hcd hmg hobj hints hlen hg => ?_
  obtain ⟨K, fd, sp, cC, cT, KX, ht, nT, hb, hsp, hF⟩ := F w mg fa _ Y G.T.g hmg
  obtain ⟨C, hT⟩ := PySem.W.tab_of G.T KX hrec ht
  exact law_callGT KX G.T.g G.T.b G.T.builtins G.T.nolimit hg hT nT C G.T.bmain hobj hints (Nat.le_trans hlen hn2) hr hF hb (fun H hH hS => hsp H a ns hlen hH hS)
end EX2
set_option Elab.async false
set_option linter.all false
set_option maxRecDepth 100000
set_option maxHeartbeats 4000000
/-! several except clauses that name the exception -/
namespace EX2
open PySem PySem.Spec PyProof.Rows L2
abbrev AsL : Type := List (Value × (Addr → Value → Option Addr → TS))
/-- what the clauses 'except x as n' wish of an exception of the body, one after the other: slot i is n's -/
def wManyAs (K : PySem.W.Frag) (i : Nat) (Wout : WX) (D : Ends) : AsL → WX
  | [] => Wout
  | (c, ts) :: r => fun cls d σ H => ∃ b, PySem.W.exmOne K cls c = some b ∧
      (b = true → ∀ a, H a = none → ts a cls d { nx := fun σ' H' => D.nx (σ'.set i none) H', rt := D.rt, bk := fun σ' H' => D.bk (σ'.set i none) H', ct := fun σ' H' => D.ct (σ'.set i none) H' } (σ.set i (some (.ref a))) H) ∧
      (b = false → wManyAs K i Wout D r cls d σ H)
inductive HdsAs (X : Cx) (n : Str) : List ExceptHandler → AsL → Prop
  | nil : HdsAs X n [] []
  | cons {x : Str} {c : Value} {ts : Addr → Value → Option Addr → TS} {b₀ : Stmt} {suite : List Stmt} {np pos' : Pos} {hds : List ExceptHandler} {l : AsL} (hc : Names X x c)
      (hsu : ∀ (a : Addr) (oe : Obj) (cls : Value) (d : Option Addr) (pn : List (Addr × Obj)), Zc cls d oe → (∃ vs, oe.data = .fields vs) → PSs (X.suite a ((a, oe) :: pn)) (b₀ :: suite) (ts a cls d)) (r : HdsAs X n hds l) :
      HdsAs X n (.ExceptHandler (some (.Name x np)) (some n) (b₀ :: suite) pos' :: hds) ((c, ts) :: l)
section
variable {X : Cx} {n : Str} {i : Nat} {body : List Stmt} {h₀ : ExceptHandler} {hds : List ExceptHandler} {l : AsL} {pos : Pos} {tb : WX → TS} {Wout : WX}
theorem ps_try_manyAs (hs : X.stack = X.env :: X.outer) (hf : X.env.frame = some X.env.locals) (hN : X.N.Nodup) (hi : X.N[i]? = some n) (hln : X.env.kindOf n = some .local) (tk : Takes X Wout)
    (hb : ∀ (W : WX) (pn : List (Addr × Obj)) (xe : Value → Shared → Prop), Takes (X.tr pn xe) W → PassesOwn (model X.prog X.w) X.A X.env xe → PSs (X.tr pn xe) body (tb W))
    (hh : HdsAs X n (h₀ :: hds) l) : PS X (.Try body (h₀ :: hds) [] [] pos) (fun D σ H => tb (wManyAs X.K i Wout D l) D σ H) := by
  refine ⟨fun pins s σ H D I h => ?_⟩
  have ok := I.ok
  have hfr : X.A.frames = some (X.env :: X.outer) := by rw [ok.frames, hs]
  have hloc : Loc X.env.scope n := .inl hln
  refine wpAny_Try_except ?_
  refine wpAny_mono ((hb (wManyAs X.K i Wout D l) (X.pn ++ pins) (fun e s₁ => wpAny (model X.prog X.w) X.A (noteFrame e X.env) (fun _ s₂ => wpAny (model X.prog X.w) X.A (setFlight e none) (fun _ s₃ =>
    wpAny (model X.prog X.w) X.A (handleBy e X.env (h₀ :: hds)) (SP X pins D) X.xe s₃) X.xe s₂) X.xe s₁) (fun u s' xx => ?_) PassesOwn.looking).run [] s σ H D (I.toTry _) h) (fun f s1 hsp => ?_) (fun e s1 he => he)
  · obtain ⟨a, B, sI, pins', σ', H', cls, d, rfl, J', nb, up, sky, na, os, ag, w⟩ := xx
    have J : Inv X pins σ' H' sI := J'.ofTry ok
    have sky' : Sky B (X.env :: X.outer) a (Zc cls d) X.env.locals s'.heap := by rw [← hs]; exact sky
    show wpAny (model X.prog X.w) X.A (noteFrame (.ref a) X.env) _ _ _
    refine Sky.land Zc.steady hfr hf sky' fun h3 fl3 up3 => ?_
    have J3 : Inv X pins σ' H' { s' with heap := h3 } := J.landed nb fl3.1 (up.trans up3) os ag
    obtain ⟨oe3, vs3, he3, hz3, hd3⟩ := fl3.there
    have notFr : ∀ {h : Heap} {o : Obj} {vs : Array Value}, h.FunFrames B (X.env :: X.outer) → h.get? a = some o → o.data = .fields vs → a ∉ frs (X.env :: X.outer) := fun {h o vs} ff e dd hm => by
      obtain ⟨_, o', e', hnf⟩ := ff.mem hm
      rw [e] at e'; cases e'
      exact hnf _ dd
    have nfr := notFr fl3.2.2.1 he3 hd3
    have nL : a ≠ X.env.locals := fun z => nfr (List.mem_filterMap.mpr ⟨X.env, List.mem_cons_self, by rw [hf, z]⟩)
    have nF : a ∉ X.fs := fun hm => by
      obtain ⟨e, he, q⟩ := List.mem_filterMap.mp hm
      exact nfr (List.mem_filterMap.mpr ⟨e, List.mem_cons_of_mem _ he, q⟩)
    have S3 := J3.suite he3 hd3 na nL nF
    have go : ∀ {hds' : List ExceptHandler} {l' : AsL}, HdsAs X n hds' l' → wManyAs X.K i Wout D l' cls d σ' H' →
        wpAny (model X.prog X.w) X.A (handleBy (.ref a) X.env hds') (SP X pins D) X.xe { s' with heap := h3 } := by
      intro hds' l' hk
      induction hk with
      | nil =>
        intro w
        refine wpAny_handleBy_nil ?_
        obtain ⟨k1, k2, k3, oe, vs, T, oT, ts', he, hz, hd, h1, hr⟩ := id fl3
        unfold PySem.passOn
        refine wpAny_bind (wpAny_field he hd h1 ?_)
        rw [if_neg (show ¬ ((Value.ref T == Value.none) = true) from by simp)]
        have fin : wpAny (model X.prog X.w) X.A (setFlight (.ref a) X.env.frame) (fun _ s4 => wpAny (model X.prog X.w) X.A (throw (.ref a) : Sem Flow) (SP X pins D) X.xe s4) X.xe { s' with heap := h3 } := by
          rw [hf]
          refine HandSPX.setFlight_upZ fl3 fun h4 hh4 up4 => wpAny_throw (tk _ _ ?_)
          exact ⟨a, B, sI, pins, σ', H', cls, d, rfl, J, nb, (up.trans up3).trans up4, .inr (.inr (by rw [hs]; exact hh4)), na, os, ag, w⟩
        first
          | exact wpAny_bind (wpAny_pure (wpAny_bind fin))
          | exact wpAny_bind fin
      | @cons x c ts b₀ suite np pos' hds2 l2 hc hsu r ih =>
        intro w
        obtain ⟨b, hb1, hyes, hno⟩ := w
        refine wpAny_handleBy_cons (codeAny_handlers_test ?_) (by intro q; cases q)
        have LT : PySem.W.Looks (model X.prog X.w) h3 (typeOf (.ref a)) cls := fun A Q E s k q => wpAny_typeOf_ref (k _ _ he3) (by rw [hz3.1]; exact q)
        have LM := PySem.W.exm_one (M := model X.prog X.w) (J3.kIn) LT hb1
        have test : ∀ {Q : Value → Shared → Prop} {E : Value → Shared → Prop}, Q c { s' with heap := h3 } → wpAny (model X.prog X.w) (X.A.mark (some (.ref a))) (eval (.Name x np) X.env) Q E { s' with heap := h3 } := fun {Q E} q => by
          obtain ⟨hg, hdbg, hm | ⟨hm, hv, hnn⟩⟩ := hc
          · exact ld_glob (X := X.suite a ((a, oe3) :: (X.pn ++ pins))) S3 hg hm q hdbg
          · exact ld_blt (X := X.suite a ((a, oe3) :: (X.pn ++ pins))) S3 hg hm hv q hnn hdbg
        refine test (LM.here ?_)
        cases b with
        | true =>
          refine codeAny_handlers_suite_as ?_
          refine HandSPX.lands_againZ fl3 fun h4 fl4 up4 => ?_
          have J4 : Inv X pins σ' H' { s' with heap := h4 } := J.landed nb fl4.1 ((up.trans up3).trans up4) os ag
          obtain ⟨oe4, vs4, he4, hz4, hd4⟩ := fl4.there
          have S4 := J4.suite he4 hd4 na nL nF
          refine store_ok (X := X.suite a ((a, oe4) :: (X.pn ++ pins))) (v := .ref a) S4 hN hi hloc rfl (fun s5 S5 => ?_) (.inr hln)
          refine wpAny_mono ((hsu a oe4 cls d (X.pn ++ pins) hz4 ⟨_, hd4⟩).run [] s5 _ H' _ S5 (hyes rfl a na)) (fun f s6 hsp => ?_) (fun _ _ z => False.elim z)
          have end_ : ∀ {σ6 : L2.St} {H6 : Hp} {Q : Shared → Prop}, Inv (X.suite a ((a, oe4) :: (X.pn ++ pins))) [] σ6 H6 s6 → (∀ s7, Inv X pins (σ6.set i none) H6 s7 → Q s7) →
              wpAny (model X.prog X.w) X.A (do bindName X.env n .none; unbindBehindTheSuite X.env n pos') (fun _ s7 => Q s7) X.xe s6 := fun {σ6 H6 Q} S6 hq => gone_ok (S6.unsuite ok) hN hi hln hq
          cases f with
          | next =>
            obtain ⟨σ6, H6, S6, q6⟩ := hsp
            exact end_ S6 fun s7 J7 => ⟨_, _, J7, q6⟩
          | brk =>
            obtain ⟨σ6, H6, S6, q6⟩ := hsp
            exact end_ S6 fun s7 J7 => ⟨_, _, J7, q6⟩
          | cont =>
            obtain ⟨σ6, H6, S6, q6⟩ := hsp
            exact end_ S6 fun s7 J7 => ⟨_, _, J7, q6⟩
          | ret u =>
            obtain ⟨v6, σ6, H6, S6, r6, q6⟩ := hsp
            exact end_ S6 fun s7 J7 => ⟨_, _, _, J7, r6, q6⟩
        | false =>
          show wpAny _ X.A (handleBy (.ref a) X.env hds2) _ _ _
          exact ih (hno rfl)
    exact go hh w
  · cases f with
    | next =>
      obtain ⟨σ', H', J', q⟩ := hsp
      exact wpAny_execs_nil ⟨σ', H', J'.ofTry ok, q⟩
    | brk =>
      obtain ⟨σ', H', J', q⟩ := hsp
      exact ⟨σ', H', J'.ofTry ok, q⟩
    | cont =>
      obtain ⟨σ', H', J', q⟩ := hsp
      exact ⟨σ', H', J'.ofTry ok, q⟩
    | ret u =>
      obtain ⟨v, σ', H', J', r, q⟩ := hsp
      exact ⟨v, σ', H', J'.ofTry ok, r, q⟩
end
end EX2
set_option Elab.async false
set_option linter.all false
set_option maxRecDepth 100000
set_option maxHeartbeats 0
namespace K07
open PySem PySem.Spec PyProof.Rows L2 EX2 TX
open SL (setT rowT orT setL rowL orL jS jR CanS CanR newR Ins Wf dN leadT)
abbrev sboth : Stmt := top 33
abbrev stable : Stmt := top 34
/-- InvalidName -/
structure NameF (P : Program) (w : World) (K : PySem.W.Frag) (mg : Str → Option Value) (base : Heap) : Prop where
  hm : mg "InvalidName" = some (.ref (He.ga K "InvalidName"))
  g : ClsG K (He.ga K "InvalidName") (He.ga K "ClassError") (ini K "InvalidName") ["given"]
  fn : ∃ fd, FnOk P w K mg base CX0 1 (ini K "InvalidName") fd ["self", "given"] (spX (He.ga K "InvalidName") 1 fun xs => [("given", xs.headD .non)]) ∧ Binds K fd ["self", "given"] []
/-- isinstance(.., Method) -/
structure InsM (K : PySem.W.Frag) : Prop where
  ha : PySem.W.findIn K (.ref (He.ga K "Method")) "__class__" = some (some (.builtin "object.__class__"))
  hn : PySem.W.specialIn K (.builtin "object.__class__") "__get__" = some (some (.builtin "getset_descriptor.__get__"))
  ht : PySem.W.takesIn K (.builtin "object.__class__") = some true
  hm : PySem.W.mroIn K (He.ga K "Method") (.type "object") = some true
  kn : PySem.W.kitOne K (.type "NoneType") (.ref (He.ga K "Method")) = some false
  ks : PySem.W.kitOne K (.type "str") (.ref (He.ga K "Method")) = some false
  kt : PySem.W.kitOne K (.type "tuple") (.ref (He.ga K "Method")) = some false
  ki : PySem.W.kitOne K (.type "int") (.ref (He.ga K "Method")) = some false
theorem InsM.kc {K : PySem.W.Frag} (_ : InsM K) : PySem.W.kitOne K (.ref (He.ga K "Method")) (.ref (He.ga K "Method")) = some true := by
  unfold PySem.W.kitOne
  rw [if_pos (by simp)]
/-- no method -/
inductive NoM (H : Hp) : V → Prop
  | non : NoM H .non
  | str (z : Str) : NoM H (.str z)
  | int (i : Int) : NoM H (.int i)
  | tup (a : Addr) (xs : List V) (h : H a = some (.tup xs)) : NoM H (.ref a)
/-- owner and method, right or not; the raised: its class and its data -/
def spBoth (K : PySem.W.Frag) : Sp := fun vs H Q E => ∃ (x m : V), vs = [x, m] ∧
  ((∃ d, Dq H x d ∧ okD d = true ∧ nameD d = false ∧ ∀ (dd : Addr) (H' : Hp), Evl.Ex H H' → H' dd = some (.xd [("given", x)]) → E (.ref (He.ga K "InvalidName")) (some dd) H') ∨
   (∃ d, Dq H x d ∧ okD d = true ∧ nameD d = true ∧ NoM H m ∧ ∀ (dd : Addr) (H' : Hp), Evl.Ex H H' → H' dd = some (.xd [("given", m)]) → E (.ref (He.ga K "InvalidMethod")) (some dd) H') ∨
   (∃ d pl sz is, Dq H x d ∧ okD d = true ∧ nameD d = true ∧ MAt K H m pl sz is ∧ ∀ H', Evl.Ex H H' → Q .non H'))
section
variable {P : Program} {w : World} {K : PySem.W.Frag} {mg : Str → Option Value} {base : Heap} {f : Addr} {fd : FuncData}
abbrev nboth : List Str := ["owner", "method"]
theorem scboth : FnScope nboth ["owner", "method"] (defScope sboth) := ⟨rfl, rfl, rfl, by decide +kernel, rfl, by decide +kernel, by decide +kernel⟩
theorem ok_both (F : FnP K "check_both" sboth f fd) (D : Defs w K mg) (M : MethF K mg) (XF : ExcF P w K mg base) (NF : NameF P w K mg base) (IM : InsM K) : FnOk P w K mg base (L2.CX P w) 3 f fd ["owner", "method"] (spBoth K) := by
  have T := D.t
  obtain ⟨fN, fdN, gN, FN⟩ := D.is_name
  have GN : FnOk P w K mg base CX0 1 fN fdN ["value"] (spD nameD) := okD_name D FN
  have bN : Binds K fdN ["value"] [] := FN.bindsN fun _ _ _ _ _ _ us hl => match us, hl with | [_], _ => rfl
  obtain ⟨fdE, GE, bE⟩ := XF.fn
  obtain ⟨fdE2, GE2, bE2⟩ := NF.fn
  refine F.ok scboth (fun vs H Q E h => ?_) (fun cdv A outer s H vs Q E hr h => ?_)
  · obtain ⟨x, m, rfl, _⟩ := h
    rfl
  · obtain ⟨x, m, rfl, h⟩ := h
    refine ⟨_, pss_cons (ps_if (pt_not (pt_val (pe_call GN (hr.mono (by decide)) rfl gN FN.kp bN .nil pass0 (pa_cons (pv 0) pa_nil))))
        (pss_one (ps_raise rfl (takes_of rfl rfl rfl rfl) (pmk_xk NF.g.t NF.g.at_ NF.g.ty GE2 (hr.mono (by decide)) bE2 rfl NF.hm (by decide) (pa_cons (pv 0) pa_nil))))
        pss_nil)
      (pss_one (ps_if (pt_not (pt_val (pe_callB call_isi rfl T.isi boot_isi (pa_cons (pv 1) (pa_cons (pe_glob rfl M.hm (v := .ref (He.ga K "Method")) rfl) pa_nil)))))
        (pss_one (ps_raise rfl (takes_of rfl rfl rfl rfl) (pmk_xk XF.g.t XF.g.at_ XF.g.ty GE (hr.mono (by decide)) bE rfl XF.hm (by decide) (pa_cons (pv 1) pa_nil))))
        pss_nil)), ?_⟩
    rcases h with ⟨d, hd, ok, nm, hE⟩ | ⟨d, hd, ok, nm, hn, hE⟩ | ⟨d, pl, sz, is, hd, ok, nm, hm, hQ⟩
    · refine ⟨_, rfl, x, d, rfl, hd, ok, fun H1 e1 => ⟨_, rfl, ?_⟩⟩
      rw [nm]
      exact iteT ⟨_, rfl, rfl, fun dE HE eE hE' => hE dE HE (e1.trans eE) hE'⟩
    · refine ⟨_, rfl, x, d, rfl, hd, ok, fun H1 e1 => ⟨_, rfl, ?_⟩⟩
      rw [nm]
      refine iteF ?_
      cases hn with
      | non => exact ⟨_, rfl, _, _, _, _, _, rfl, .own _, .base .non, IM.kn, _, rfl, iteT ⟨_, rfl, rfl, fun dE HE eE hE' => hE dE HE (e1.trans eE) hE'⟩⟩
      | str z => exact ⟨_, rfl, _, _, _, _, _, rfl, .own _, .base (.str z), IM.ks, _, rfl, iteT ⟨_, rfl, rfl, fun dE HE eE hE' => hE dE HE (e1.trans eE) hE'⟩⟩
      | int i => exact ⟨_, rfl, _, _, _, _, _, rfl, .own _, .base (.int i), IM.ki, _, rfl, iteT ⟨_, rfl, rfl, fun dE HE eE hE' => hE dE HE (e1.trans eE) hE'⟩⟩
      | tup a xs h => exact ⟨_, rfl, _, _, _, _, _, rfl, .own _, .base (.tup (e1 _ _ h)), IM.kt, _, rfl, iteT ⟨_, rfl, rfl, fun dE HE eE hE' => hE dE HE (e1.trans eE) hE'⟩⟩
    · refine ⟨_, rfl, x, d, rfl, hd, ok, fun H1 e1 => ⟨_, rfl, ?_⟩⟩
      rw [nm]
      refine iteF ?_
      obtain ⟨mx, dx, n, p, r, c, rfl, hmx, _, _⟩ := hm.ex
      exact ⟨_, rfl, _, _, _, _, _, rfl, .own _, .base (.ins (e1 _ _ hmx) M.cl IM.ha IM.hn IM.ht IM.hm), IM.kc, _, rfl, iteF (hQ H1 e1)⟩
end
end K07
set_option Elab.async false
set_option linter.all false
set_option maxRecDepth 100000
set_option maxHeartbeats 0
namespace EX2
open PySem PySem.Spec PyProof.Rows L2
/-- what is taken of slots of the right number -/
theorem takes_len {X : Cx} {W : WX} (tk : Takes X W) : Takes X (fun cls d σ H => σ.length = X.N.length → W cls d σ H) := fun u s' x => by
  obtain ⟨a, B, sI, pins', σ', H', cls, d, e, J, nb, up, sky, na, os, ag, w⟩ := x
  exact tk _ _ ⟨a, B, sI, pins', σ', H', cls, d, e, J, nb, up, sky, na, os, ag, w J.len⟩
theorem takes0' {X : Cx} : Takes X (fun _ _ _ _ => False) := fun _ _ x => by
  obtain ⟨_, _, _, _, _, _, _, _, _, _, _, _, _, _, _, _, z⟩ := x
  exact z.elim
end EX2
namespace K07
open PySem PySem.Spec PyProof.Rows L2 EX2 TX
open SL (setT rowT orT setL rowL orL jS jR CanS CanR newR Ins Wf dN leadT)
abbrev srefu : Stmt := top 50
/-- least_table: owner and method, right or not -/
def spTable (K : PySem.W.Frag) : Sp := fun vs H Q E => ∃ (x m : V), vs = [x, m] ∧
  ((∃ d, Dq H x d ∧ okD d = true ∧ nameD d = false ∧ ∀ (dd : Addr) (H' : Hp), Evl.Ex H H' → H' dd = some (.xd [("given", x)]) → E (.ref (He.ga K "InvalidName")) (some dd) H') ∨
   (∃ d, Dq H x d ∧ okD d = true ∧ nameD d = true ∧ NoM H m ∧ ∀ (dd : Addr) (H' : Hp), Evl.Ex H H' → H' dd = some (.xd [("given", m)]) → E (.ref (He.ga K "InvalidMethod")) (some dd) H') ∨
   (∃ o pl sz is U, x = .str o ∧ okD (.str o) = true ∧ isNm o = true ∧ MAt K H m pl sz is ∧ Ok7 U o pl sz is ∧ ∀ v T H', Evl.Ex H H' → Lst U o pl sz is T → Dq H' v (.tuple (T.map orT)) → Q v H'))
section
variable {P : Program} {w : World} {K : PySem.W.Frag} {mg : Str → Option Value} {base : Heap} {f : Addr} {fd : FuncData}
abbrev ntable : List Str := ["owner", "method"]
theorem sctable : FnScope ntable ["owner", "method"] (defScope stable) := ⟨rfl, rfl, rfl, by decide +kernel, rfl, by decide +kernel, by decide +kernel⟩
/-- the functions of the package that least_table calls -/
structure PDefs (K : PySem.W.Frag) (mg : Str → Option Value) : Prop where
  both : ∃ f fd, mg "check_both" = some (.ref f) ∧ FnP K "check_both" sboth f fd
  least : ∃ f fd, mg "least_rows" = some (.ref f) ∧ FnP K "least_rows" sleast f fd
theorem ok_table (F : FnP K "least_table" stable f fd) (D : Defs w K mg) (M : MethF K mg) (XF : ExcF P w K mg base) (NF : NameF P w K mg base) (IM : InsM K) (SD : SetDefs K mg) (G : MGet P w K mg base) (PD : PDefs K mg) : FnOk P w K mg base (L2.CX P w) 6 f fd ["owner", "method"] (spTable K) := by
  have T := D.t
  obtain ⟨fB, fdB, gB, FB⟩ := PD.both
  have GB : FnOk P w K mg base (L2.CX P w) 3 fB fdB ["owner", "method"] (spBoth K) := ok_both FB D M XF NF IM
  have bB : Binds K fdB ["owner", "method"] [] := FB.bindsN fun _ _ _ _ _ _ us hl => match us, hl with | [_, _], _ => rfl
  obtain ⟨fL, fdL, gL, FL⟩ := PD.least
  have GL : FnOk P w K mg base CX0 5 fL fdL ["owner", "method"] (spLeast K) := ok_least FL T SD G
  have bL : Binds K fdL ["owner", "method"] [] := FL.bindsN fun _ _ _ _ _ _ us hl => match us, hl with | [_, _], _ => rfl
  refine F.ok sctable (fun vs H Q E h => ?_) (fun cdv A outer s H vs Q E hr h => ?_)
  · obtain ⟨x, m, rfl, _⟩ := h
    rfl
  · obtain ⟨x, m, rfl, h⟩ := h
    refine ⟨_, pss_cons (ps_expr (pe_call GB (hr.mono (by decide)) rfl gB FB.kp bB .nil (passes_call (takes_of rfl rfl rfl rfl) fun _ _ _ _ h => h) (pa_cons (pv 0) (pa_cons (pv 1) pa_nil))))
      (pss_one (ps_ret (pe_call GL (hr.mono (by decide)) rfl gL FL.kp bL .nil pass0 (pa_cons (pv 0) (pa_cons (pv 1) pa_nil))))), ?_⟩
    rcases h with ⟨d, hd, ok, nm, hE⟩ | ⟨d, hd, ok, nm, hn, hE⟩ | ⟨o, pl, sz, is, U, rfl, ok, nm, hm, k7, hQ⟩
    · exact ⟨_, rfl, _, rfl, x, m, rfl, .inl ⟨d, hd, ok, nm, hE⟩⟩
    · exact ⟨_, rfl, _, rfl, x, m, rfl, .inr (.inl ⟨d, hd, ok, nm, hn, hE⟩)⟩
    · refine ⟨_, rfl, _, rfl, _, m, rfl, .inr (.inr ⟨.str o, pl, sz, is, .str o, ok, nm, hm, fun H1 e1 => ?_⟩)⟩
      exact ⟨_, rfl, _, rfl, o, m, pl, sz, is, U, rfl, hm.ext e1, k7, fun v T H' e hT hv => hQ v T H' (e1.trans e) hT hv⟩
end
end K07
set_option Elab.async false
set_option linter.all false
set_option maxRecDepth 100000
set_option maxHeartbeats 0
namespace K07
open PySem PySem.Spec PyProof.Rows L2 EX2 TX LamX
/-- data that can be shown -/
structure ShowD (d : PyData) : Prop where
  s : d.showable = true
  z : d.shown.length ≤ 100000
  p : d.depth ≤ 60
theorem boot_rep : bootBuiltins "repr" = some (.builtin "repr") := by kernel_rfl
abbrev nrefu : List Str := ["_law_call_here", "e"]
theorem screfu : FnScope nrefu ["_law_call_here"] (defScope srefu) := ⟨rfl, rfl, rfl, by decide +kernel, rfl, by decide +kernel, by decide +kernel⟩
/-- what the clauses do -/
def EchR (K : PySem.W.Frag) (Q : VK) : XK := fun cls d H' =>
  (cls = .ref (He.ga K "InvalidName") ∧ ∃ dd x dt, d = some dd ∧ H' dd = some (.xd [("given", x)]) ∧ Dq H' x dt ∧ ShowD dt ∧ ∀ L H'', Evl.Ex H' H'' → H'' L = some (.lst [.str "name", .str dt.shown, .bl true]) → Q (.ref L) H'') ∨
  (cls = .ref (He.ga K "InvalidMethod") ∧ ∃ dd x dt, d = some dd ∧ H' dd = some (.xd [("given", x)]) ∧ Dq H' x dt ∧ ShowD dt ∧ ∀ L H'', Evl.Ex H' H'' → H'' L = some (.lst [.str "method", .str dt.shown, .bl true]) → Q (.ref L) H'')
def TTref (K : PySem.W.Frag) : (XK → Hp → VK → Prop) → Hp → VK → Prop := fun tl H Q => tl (EchR K Q) H fun _ H1 => ([V.str "none"] : List V).length ≤ sizeLine ∧ ∀ L, H1 L = none → Q (.ref L) (upd H1 L (.lst [.str "none"]))
structure NamesNe (K : PySem.W.Frag) : Prop where
  ne : He.ga K "InvalidName" ≠ He.ga K "InvalidMethod"
  nb : He.ga K "InvalidName" ≠ He.ga K "ClassError"
theorem refu_gives {X : Cx} {g : Addr} {cdg : Value} {q : Str} {k : Nat} (XF : ExcF X.prog X.w X.K X.mg X.base) (NF : NameF X.prog X.w X.K X.mg X.base) (NN : NamesNe X.K) (T : Txt X.K X.mg) (sd : SysD X.base) (gR : X.mg "repr" = none) (hG : X.A.guards = some []) (hr : Room (k + 1) X.A) :
    GivesTo X nrefu "_law_refused" (defScope srefu) g cdg (defBody srefu) "_law_call_here" q (TTref X.K) := by
  intro f c' s H Q tl act hc h
  have hG' : (X.A.deeper (envOfC "_law_refused" (defScope srefu) s.heap.objs.size g cdg)).guards = some [] := by rw [EX2.guards_deeper]; exact hG
  have hu : (X.A.deeper (envOfC "_law_refused" (defScope srefu) s.heap.objs.size g cdg)).units + 65 < cLine := by have := (hr.deeper (envOfC "_law_refused" (defScope srefu) s.heap.objs.size g cdg)).un; omega
  refine ⟨_, pss_cons (ps_try_manyAs (X := (cxOf C8.CX0 X.prog X.w X.K X.mg X.base nrefu "_law_refused" (defScope srefu) g cdg X.A X.stack s H C8.E0).nox) (i := 1) (n := "e")
      (tb := fun W D σ H => ∃ Ech : XK, (∀ cls d σ' H', σ'.length = 2 → Ech cls d H' → W cls d σ' H') ∧ σ[0]? = some (some (.ref f)) ∧ H c' = some (CodeO c' q) ∧ tl Ech H fun _ H1 => D.nx σ H1)
      rfl rfl screfu.nd rfl rfl EX2.takes0' (fun W pn xe tk _ => ?_)
      (.cons ⟨rfl, by decide, .inl NF.hm⟩ (fun a oe cls d pn hz hf => pss_one (ps_ret (pe_lst (pa_cons pe_str (pa_cons (pe_callB (r := rReprW) (call_reprW hG' hu sd) rfl gR boot_rep (pa_cons (pe_xf NF.g.x (NF.g.no _ (List.mem_singleton.mpr rfl)) hz hf (pv 1)) pa_nil)) (pa_cons (pe_callB (r := rIsXE X.K a cls d) (call_isXE hz hf) rfl T.isi boot_isi (pa_cons (pv 1) (pa_cons (pe_glob rfl XF.hB (v := .ref (He.ga X.K "ClassError")) rfl) pa_nil))) pa_nil))))))
      (.cons ⟨rfl, by decide, .inl XF.hm⟩ (fun a oe cls d pn hz hf => pss_one (ps_ret (pe_lst (pa_cons pe_str (pa_cons (pe_callB (r := rReprW) (call_reprW hG' hu sd) rfl gR boot_rep (pa_cons (pe_xf XF.g.x (XF.g.no _ (List.mem_singleton.mpr rfl)) hz hf (pv 1)) pa_nil)) (pa_cons (pe_callB (r := rIsXE X.K a cls d) (call_isXE hz hf) rfl T.isi boot_isi (pa_cons (pv 1) (pa_cons (pe_glob rfl XF.hB (v := .ref (He.ga X.K "ClassError")) rfl) pa_nil))) pa_nil)))))) .nil)))
    (pss_one (ps_ret (pe_lst (pa_cons pe_str pa_nil)))), ?_⟩
  · refine ⟨fun pins s' σ H' D I h' => ?_⟩
    obtain ⟨Ech, hW, h1, h2, h3⟩ := h'
    have hp := fun p1 p2 => act _ pn xe Ech p1 p2 (EX2.takes_len tk) (fun cls d σ' H' he hl => hW cls d σ' H' hl he)
    exact (pss_one (ps_expr (hp _ _))).run pins s' σ H' D I ⟨h1, h2, h3⟩
  · refine ⟨EchR X.K Q, fun cls d σ' H' hl he => ?_, rfl, hc, h⟩
    obtain ⟨s0, s1, rfl⟩ : ∃ s0 s1, σ' = [s0, s1] := by
      match σ', hl with
      | [s0, s1], _ => exact ⟨s0, s1, rfl⟩
    rcases he with ⟨rfl, dd, x, dt, rfl, hdd, hdt, hs, hR⟩ | ⟨rfl, dd, x, dt, rfl, hdd, hdt, hs, hR⟩
    · refine ⟨true, PySem.W.exm_ref NF.g.t.exC NF.g.t.hdC NF.g.t.tyC NF.g.self, fun _ a' ha' => ?_, fun h => nomatch h⟩
      refine ⟨_, rfl, rfl, rfl, dd, _, x, rfl, hdd, rfl, x, dt, rfl, .q hdt, hs.s, Nat.le_trans hs.z (by rw [sizeLine_eq]; decide), hs.p, _, rfl, _, dd, _, _, _, true, rfl, .own _, rfl, rfl, hdd, NF.g.c, NF.g.kitB XF.cB, le_line (by simp), fun R hR' => ?_⟩
      exact hR R _ (Evl.Ex.new hR') upd_same
    · have hno : PySem.W.subIn X.K (.ref (He.ga X.K "InvalidMethod")) (.ref (He.ga X.K "InvalidName")) = some false := (mro_of XF.g.mro _).trans (by simp [NN.ne, NN.nb])
      refine ⟨false, PySem.W.exm_ref NF.g.t.exC NF.g.t.hdC NF.g.t.tyC hno, (fun h => nomatch h), fun _ => ?_⟩
      refine ⟨true, PySem.W.exm_ref XF.g.t.exC XF.g.t.hdC XF.g.t.tyC XF.g.self, fun _ a' ha' => ?_, fun h => nomatch h⟩
      refine ⟨_, rfl, rfl, rfl, dd, _, x, rfl, hdd, rfl, x, dt, rfl, .q hdt, hs.s, Nat.le_trans hs.z (by rw [sizeLine_eq]; decide), hs.p, _, rfl, _, dd, _, _, _, true, rfl, .own _, rfl, rfl, hdd, XF.g.c, XF.g.kitB XF.cB, le_line (by simp), fun R hR' => ?_⟩
      exact hR R _ (Evl.Ex.new hR') upd_same
end K07
set_option Elab.async false
set_option linter.all false
set_option maxRecDepth 100000
set_option maxHeartbeats 0
namespace EX2
open PySem PySem.Spec PyProof.Rows L2 LamX
section
variable {H H' : Hp}
mutual
theorem Dq.extN (e : ExtN H H') : ∀ {x : V} {d : PyData}, Dq H x d → Dq H' x d
  | _, _, .non => .non
  | _, _, .bl b => .bl b
  | _, _, .int i => .int i
  | _, _, .str x => .str x
  | _, _, .lst q h => .lst (e _ _ q (fun _ z => nomatch z)) (DqAll.extN e h)
  | _, _, .tup q h => .tup (e _ _ q (fun _ z => nomatch z)) (DqAll.extN e h)
  | _, _, .dk q h => .dk (e _ _ q (fun _ z => nomatch z)) (DqAll.extN e h)
theorem DqAll.extN (e : ExtN H H') : ∀ {xs : List V} {ds : List PyData}, DqAll H xs ds → DqAll H' xs ds
  | _, _, .nil => .nil
  | _, _, .cons h t => .cons (Dq.extN e h) (DqAll.extN e t)
end
end
end EX2
namespace K07
open PySem PySem.Spec PyProof.Rows L2 EX2 TX LamX
open SL (Ins)
abbrev serr : Stmt := top 51
theorem MAt.extN {K : PySem.W.Frag} {H H' : Hp} {m : V} {pl : List Str} {sz : Nat} {is : List Ins} (h : MAt K H m pl sz is) (e : ExtN H H') : MAt K H' m pl sz is := by
  obtain ⟨x, dx, n, p, r, c, h1, h2, h3, h4⟩ := h.ex
  exact ⟨x, dx, n, p, r, c, h1, e _ _ h2 (fun _ z => nomatch z), h3.extN e, h4.extN e⟩
def showB (d : PyData) : Bool := d.showable && (decide (d.shown.length ≤ 100000) && decide (d.depth ≤ 60))
theorem ShowD.of {d : PyData} (h : showB d = true) : ShowD d := by
  unfold showB at h
  simp only [Bool.and_eq_true, decide_eq_true_eq] at h
  exact ⟨h.1, h.2.1, h.2.2⟩
def odd1 : List PyData := [.none, .str "", .str "A", .str "toolongname", .int 5, .list [.str "a"], .str "a[]"]
theorem odd1_ok : ∀ d ∈ odd1, nameD d = false ∧ okD d = true ∧ showB d = true ∧ PyData.strOk d.shown = true := by decide +kernel
/-- the code of a method can be shown -/
structure CodeS (is : List Ins) : Prop where
  s : ShowD (.tuple (is.map Ins.data))
  o : PyData.strOk (PyData.tuple (is.map Ins.data)).shown = true
def odd2 (is : List Ins) : List PyData := [.none, .str "m", .tuple (is.map Ins.data), .int 5]
theorem odd2_ok {is : List Ins} (h : CodeS is) : ∀ d ∈ odd2 is, ShowD d ∧ PyData.strOk d.shown = true := by
  intro d hd
  have c : ∀ d ∈ ([.none, .str "m", .int 5] : List PyData), showB d = true ∧ PyData.strOk d.shown = true := by decide +kernel
  unfold odd2 at hd
  simp only [List.mem_cons, List.not_mem_nil, or_false] at hd
  rcases hd with rfl | rfl | rfl | rfl
  · exact ⟨ShowD.of (c _ (by simp)).1, (c _ (by simp)).2⟩
  · exact ⟨ShowD.of (c _ (by simp)).1, (c _ (by simp)).2⟩
  · exact ⟨h.s, h.o⟩
  · exact ⟨ShowD.of (c _ (by simp)).1, (c _ (by simp)).2⟩
theorem shp3 (a z : Str) (ha : PyData.strOk a = true) (hz : PyData.strOk z = true) : SeqAt.shaped (.list [.str a, .str z, .bool true]) = true ∧ (PyData.list [.str a, .str z, .bool true]).canLay0 = true := by
  have h2 : (PyData.list [.str a, .str z, .bool true]).canLay0 = true := by
    simp [PyData.canLay0, PyData.canLayAll0, ha, hz]
  refine ⟨?_, h2⟩
  unfold SeqAt.shaped
  rw [h2]
  simp [PyData.depth, PyData.depthAll]
/-- the name of the lambdas -/
def qL : Str := (envOfC "_law_errors_right" (defScope serr) 0 0 .none).qual ++ "<lambda>"
def spErr (K : PySem.W.Frag) (cT : Addr) : Sp := fun vs H Q _ => ∃ (m : V) (pl : List Str) (sz : Nat) (is : List Ins), vs = [m] ∧ MAt K H m pl sz is ∧ CodeS is ∧ Tabs [(cT, qL)] H ∧ ∀ H', ExtN H H' → Tabs [(cT, qL)] H' → Q (.bl true) H'
section
variable {P : Program} {w : World} {K : PySem.W.Frag} {mg : Str → Option Value} {base : Heap} {f : Addr} {fd : FuncData}
abbrev nerr : List Str := ["_law_method_here", "_law_odd"]
theorem scerr : FnScope nerr ["_law_method_here"] (defScope serr) := ⟨rfl, rfl, rfl, by decide +kernel, rfl, by decide +kernel, by decide +kernel⟩
theorem ok_err {cC cT : Addr} (F : FnP K "_law_errors_right" serr f fd) (hcd : ∀ cdv, CodeAt K f cdv → cdv = .ref cC) (TB : TabB base mg cC cT) (D : Defs w K mg) (M : MethF K mg) (XF : ExcF P w K mg base) (NF : NameF P w K mg base) (NN : NamesNe K) (IM : InsM K) (SD : SetDefs K mg) (G : MGet P w K mg base) (PD : PDefs K mg)
    (sd : SysD base) (gR : mg "repr" = none) {fT : Addr} {fdT : FuncData} (FT : FnP K "least_table" stable fT fdT) (gT : mg "least_table" = some (.ref fT)) {fR : Addr} {fdR : FuncData} (FR : FnP K "_law_refused" srefu fR fdR) (gRf : mg "_law_refused" = some (.ref fR)) :
    FnOkG P w K mg base 9 f fd ["_law_method_here"] (spErr K cT) := by
  have T := D.t
  obtain ⟨p5, fd5, G5, b5⟩ := G.g5
  have GT : FnOk P w K mg base (L2.CX P w) 6 fT fdT ["owner", "method"] (spTable K) := ok_table FT D M XF NF IM SD G PD
  have bT : Binds K fdT ["owner", "method"] [] := FT.bindsN fun _ _ _ _ _ _ us hl => match us, hl with | [_, _], _ => rfl
  have bR : Binds K fdR ["_law_call_here"] [] := FR.bindsN fun _ _ _ _ _ _ us hl => match us, hl with | [_], _ => rfl
  refine EX2.okGC F scerr (fun vs H Q E h => ?_) (fun cdv A outer s H vs Q E hc hg hr h => ?_)
  · obtain ⟨m, pl, sz, is, rfl, _⟩ := h
    rfl
  · obtain ⟨m, pl, sz, is, rfl, hm, cS, hT, hQ⟩ := h
    obtain rfl := hcd cdv hc
    have hG : (A.deeper (envOfC "_law_errors_right" (defScope serr) s.heap.objs.size f (.ref cC))).guards = some [] := by rw [EX2.guards_deeper]; exact hg
    have hu : (A.deeper (envOfC "_law_errors_right" (defScope serr) s.heap.objs.size f (.ref cC))).units + 65 < cLine := by have := hr.un; omega
    obtain ⟨oc, od, dV, kV, doc, pm, an, cdR, ct, osl, rfl, lk, hcR, _⟩ := FR.ex
    refine ⟨_, PSs.nox (pss_cons (ps_for PassesOwn.never rfl (pi_list (pe_lst (pa_cons pe_non (pa_cons pe_str (pa_cons pe_str (pa_cons pe_str (pa_cons pe_int (pa_cons (pe_lst (pa_cons pe_str pa_nil)) (pa_cons pe_str pa_nil))))))))) (pg_name (i := 1) scerr.nd rfl (Or.inr rfl))
        (pss_one (ps_if (pt_cmpR (op_neD hr.units) (pe_lamcall (k := 6) (T := [(cT, qL)]) rfl gRf FR.kp lk hcR bR screfu rfl (.inl rfl) (refu_gives (k := 0) XF NF NN T sd gR hG (hr.mono (by decide))) TB rfl (List.mem_singleton.mpr rfl) (fun p hp _ => by rw [List.mem_singleton.mp hp]; rfl) hr (lamS_by (sc := defScope serr) (by decide +kernel)) rfl (fun _ _ _ _ _ => rfl)
              (fun A outer s H E f c' hr2 => pe_call GT hr2 rfl gT FT.kp bT .nil (passes_call (takes_of rfl rfl rfl rfl) fun _ _ _ _ h => h) (pa_cons (pv 1) (pa_cons pe_non pa_nil)))) (pe_lst (pa_cons pe_str (pa_cons (pe_callB (r := rReprW) (call_reprW hG hu sd) rfl gR boot_rep (pa_cons (pv 1) pa_nil)) (pa_cons pe_bl pa_nil)))) (nomark _))
          (pss_one (ps_ret pe_bl))
          pss_nil)))
      (pss_cons (ps_for PassesOwn.never rfl (pi_list (pe_lst (pa_cons pe_non (pa_cons pe_str (pa_cons (pe_prop (pv 0) M.cl p5 G5 (hr.mono (by decide)) b5 .nil pass0 rfl) (pa_cons pe_int pa_nil)))))) (pg_name (i := 1) scerr.nd rfl (Or.inr rfl))
        (pss_one (ps_if (pt_cmpR (op_neD hr.units) (pe_lamcall (k := 6) (T := [(cT, qL)]) rfl gRf FR.kp lk hcR bR screfu rfl (.inl rfl) (refu_gives (k := 0) XF NF NN T sd gR hG (hr.mono (by decide))) TB rfl (List.mem_singleton.mpr rfl) (fun p hp _ => by rw [List.mem_singleton.mp hp]; rfl) hr (lamS_by (sc := defScope serr) (by decide +kernel)) rfl (fun _ _ _ _ _ => rfl)
              (fun A outer s H E f c' hr2 => pe_call GT hr2 rfl gT FT.kp bT .nil (passes_call (takes_of rfl rfl rfl rfl) fun _ _ _ _ h => h) (pa_cons pe_str (pa_cons (pv 1) pa_nil)))) (pe_lst (pa_cons pe_str (pa_cons (pe_callB (r := rReprW) (call_reprW hG hu sd) rfl gR boot_rep (pa_cons (pv 1) pa_nil)) (pa_cons pe_bl pa_nil)))) (nomark _))
          (pss_one (ps_ret pe_bl))
          pss_nil)))
      (pss_one (ps_ret pe_bl)))), ?_⟩
    refine ⟨le_line (by simp), fun q1 g1 => ⟨le_line (by simp), fun L hL => ⟨L, rfl, ⟨_, SqL.of upd_same⟩, ?_⟩⟩⟩
    have e1 := Evl.Ex.new (o := .lst [.str "a"]) g1
    have e2 := Evl.Ex.new (o := .lst [.non, .str "", .str "A", .str "toolongname", .int 5, .ref q1, .str "a[]"]) hL
    have dL : DqAll (upd (upd H q1 (.lst [.str "a"])) L (.lst [.non, .str "", .str "A", .str "toolongname", .int 5, .ref q1, .str "a[]"])) [.non, .str "", .str "A", .str "toolongname", .int 5, .ref q1, .str "a[]"] odd1 :=
      .cons .non (.cons (.str _) (.cons (.str _) (.cons (.str _) (.cons (.int _) (.cons (.lst (e2 _ _ upd_same) (.cons (.str _) .nil)) (.cons (.str _) .nil))))))
    have hLs : (upd (upd H q1 (.lst [.str "a"])) L (.lst [.non, .str "", .str "A", .str "toolongname", .int 5, .ref q1, .str "a[]"])) L = some (.lst [.non, .str "", .str "A", .str "toolongname", .int 5, .ref q1, .str "a[]"]) := upd_same
    have e12 := e1.trans e2
    generalize (upd (upd H q1 (.lst [.str "a"])) L (.lst [.non, .str "", .str "A", .str "toolongname", .int 5, .ref q1, .str "a[]"])) = HL at dL hLs e12
    generalize ([.non, .str "", .str "A", .str "toolongname", .int 5, .ref q1, .str "a[]"] : List V) = vs1 at dL hLs
    have ntb : ∀ {xs : List V} (ps : Array Value), HO.lst xs ≠ .tbl ps := fun _ z => nomatch z
    refine for_it (walk_list (xs := vs1)) (fun j σ' H' => ExtN H H' ∧ Tabs [(cT, qL)] H' ∧ H' L = some (.lst vs1) ∧ DqAll H' vs1 odd1 ∧ ∃ v1, σ' = [some m, v1]) ⟨ExtN.of e12, hT.ext e12, hLs, dL, none, rfl⟩ (fun j σ H' _ h => SqL.of h.2.2.1) ?_ ?_
    · rintro j y σ H2 H3 hj ⟨eN, tb, hL2, dL2, v1, rfl⟩ ⟨rfl, hy⟩
      obtain ⟨d, hd, dy⟩ := dL2.get hy
      obtain ⟨nm, ok, sh, so⟩ := odd1_ok d (List.mem_of_getElem? hd)
      have S := ShowD.of sh
      have hs := shp3 "name" d.shown (by decide +kernel) so
      refine ⟨tb, fun H4 eN4 tb4 => ?_⟩
      have dy4 := dy.extN eN4
      refine ⟨_, rfl, y, .non, rfl, .inl ⟨d, dy4, ok, nm, fun dd H5 e5 hdd => .inl ⟨rfl, dd, y, d, rfl, hdd, dy4.ext e5, S, fun R H6 e6 hR => ?_⟩⟩⟩
      have e46 := e5.trans e6
      refine ⟨_, rfl, y, d, rfl, .q (dy4.ext e46), S.s, Nat.le_trans S.z (by rw [sizeLine_eq]; decide), S.p, le_line (by simp), fun R2 hR2 => ?_⟩
      have e7 := Evl.Ex.new (o := .lst [.str "name", .str d.shown, .bl true]) hR2
      have e47 := e46.trans e7
      refine ⟨.list [.str "name", .str d.shown, .bool true], .list [.str "name", .str d.shown, .bool true], dp_q (.lst (e7 _ _ hR) (.cons (.str _) (.cons (.str _) (.cons (.bl _) .nil)))) hs.2, dp_q (.lst upd_same (.cons (.str _) (.cons (.str _) (.cons (.bl _) .nil)))) hs.2, hs.1, hs.1, _, rfl, ?_⟩
      rw [PySem.SeqAt.eqv_refl _ hs.2]
      refine ifF rfl ?_
      exact ⟨(eN.trans eN4).trans (ExtN.of e47), tb4.ext e47, e47 _ _ (eN4 _ _ hL2 ntb), (dL2.extN eN4).ext e47, _, rfl⟩
    · rintro σ H2 ⟨eN, tb, hL2, dL2, v1, rfl⟩
      obtain ⟨x, dx, nv, p, r, c, rfl, hx, hp, hcd2⟩ := (hm.extN eN).ex
      obtain ⟨ca, cs, rfl, hca, hallC⟩ := Dq.tupI hcd2
      refine ⟨_, rfl, x, dx, _, rfl, hx, x, dx, _, .ref ca, rfl, hx, rfl, le_line (by simp), fun L2 hL2' => ⟨L2, rfl, ⟨_, SqL.of upd_same⟩, ?_⟩⟩
      have e3 := Evl.Ex.new (o := .lst [.non, .str "m", .ref ca, .int 5]) hL2'
      have dM : DqAll (upd H2 L2 (.lst [.non, .str "m", .ref ca, .int 5])) [.non, .str "m", .ref ca, .int 5] (odd2 is) := .cons .non (.cons (.str _) (.cons (.tup (e3 _ _ hca) (hallC.ext e3)) (.cons (.int _) .nil)))
      have hMs : (upd H2 L2 (.lst [.non, .str "m", .ref ca, .int 5])) L2 = some (.lst [.non, .str "m", .ref ca, .int 5]) := upd_same
      have nom : ∀ (G : Hp) (y : V) (j : Nat), G ca = some (.tup cs) → ([.non, .str "m", .ref ca, .int 5] : List V)[j]? = some y → NoM G y := fun G y j hg hy => by
        match j, hy with
        | 0, hy => cases hy; exact .non
        | 1, hy => cases hy; exact .str _
        | 2, hy => cases hy; exact .tup _ _ hg
        | 3, hy => cases hy; exact .int _
      have hca2 := e3 _ _ hca
      refine for_it (walk_list (xs := [.non, .str "m", .ref ca, .int 5])) (fun j σ' H' => ExtN H H' ∧ Tabs [(cT, qL)] H' ∧ H' L2 = some (.lst [.non, .str "m", .ref ca, .int 5]) ∧ DqAll H' [.non, .str "m", .ref ca, .int 5] (odd2 is) ∧ H' ca = some (.tup cs) ∧ ∃ v1, σ' = [some (.ref x), v1]) ⟨eN.trans (ExtN.of e3), tb.ext e3, hMs, dM, hca2, _, rfl⟩ (fun j σ H' _ h => SqL.of h.2.2.1) ?_ ?_
      · rintro j y σ H3 H3' hj ⟨eN3, tb3, hL3, dL3, hca3, v1, rfl⟩ ⟨rfl, hy⟩
        obtain ⟨d, hd, dy⟩ := dL3.get hy
        obtain ⟨S, so⟩ := odd2_ok cS d (List.mem_of_getElem? hd)
        have hs := shp3 "method" d.shown (by decide +kernel) so
        refine ⟨tb3, fun H4 eN4 tb4 => ?_⟩
        have dy4 := dy.extN eN4
        have hca4 := eN4 _ _ hca3 (fun _ z => nomatch z)
        refine ⟨_, rfl, .str "a", y, rfl, .inr (.inl ⟨.str "a", .str _, by decide +kernel, by decide +kernel, nom _ y j hca4 hy, fun dd H5 e5 hdd => .inr ⟨rfl, dd, y, d, rfl, hdd, dy4.ext e5, S, fun R H6 e6 hR => ?_⟩⟩)⟩
        have e46 := e5.trans e6
        refine ⟨_, rfl, y, d, rfl, .q (dy4.ext e46), S.s, Nat.le_trans S.z (by rw [sizeLine_eq]; decide), S.p, le_line (by simp), fun R2 hR2 => ?_⟩
        have e7 := Evl.Ex.new (o := .lst [.str "method", .str d.shown, .bl true]) hR2
        have e47 := e46.trans e7
        refine ⟨.list [.str "method", .str d.shown, .bool true], .list [.str "method", .str d.shown, .bool true], dp_q (.lst (e7 _ _ hR) (.cons (.str _) (.cons (.str _) (.cons (.bl _) .nil)))) hs.2, dp_q (.lst upd_same (.cons (.str _) (.cons (.str _) (.cons (.bl _) .nil)))) hs.2, hs.1, hs.1, _, rfl, ?_⟩
        rw [PySem.SeqAt.eqv_refl _ hs.2]
        refine ifF rfl ?_
        exact ⟨(eN3.trans eN4).trans (ExtN.of e47), tb4.ext e47, e47 _ _ (eN4 _ _ hL3 ntb), (dL3.extN eN4).ext e47, e47 _ _ hca4, _, rfl⟩
      · rintro σ H3 ⟨eN3, tb3, _⟩
        exact hQ H3 eN3 tb3
end
end K07
set_option Elab.async false
set_option linter.all false
set_option maxRecDepth 100000
set_option maxHeartbeats 0
namespace EX2
open PySem PySem.Spec PyProof.Rows L2
theorem strOk_app (a b : Str) : PyData.strOk (a ++ b) = (PyData.strOk a && PyData.strOk b) := by
  show (a.cps ++ b.cps).all _ = _
  rw [Array.all_append]
  rfl
theorem strOk_join (s : Str) (hs : PyData.strOk s = true) : ∀ ts : List Str, (∀ t ∈ ts, PyData.strOk t = true) → PyData.strOk (Str.join s ts) = true
  | [], _ => by show PyData.strOk Str.empty = true; decide +kernel
  | [x], h => h x (by simp)
  | x :: y :: r, h => by
    have e : Str.join s (x :: y :: r) = x ++ s ++ Str.join s (y :: r) := rfl
    rw [e, strOk_app, strOk_app, h x (by simp), hs, strOk_join s hs (y :: r) fun t ht => h t (List.mem_cons_of_mem _ ht)]
    rfl
theorem strOk_tup {ts : List Str} (h : ∀ t ∈ ts, PyData.strOk t = true) : PyData.strOk (tupleText ts) = true := by
  unfold tupleText
  rw [strOk_app, strOk_app, strOk_join ", " (by decide +kernel) ts h]
  split <;> decide +kernel
/-- data that is shown well: w bounds its weight, k its depth -/
structure Nc (w k : Nat) (d : PyData) : Prop where
  so : PyData.strOk d.shown = true
  sh : d.showable = true
  lf : d.leavesShort 13 = true
  we : d.weight ≤ w
  de : d.depth ≤ k
def ncB (w k : Nat) (d : PyData) : Bool := PyData.strOk d.shown && (d.showable && (d.leavesShort 13 && (decide (d.weight ≤ w) && decide (d.depth ≤ k))))
theorem Nc.of {w k : Nat} {d : PyData} (h : ncB w k d = true) : Nc w k d := by
  unfold ncB at h
  simp only [Bool.and_eq_true, decide_eq_true_eq] at h
  exact ⟨h.1, h.2.1, h.2.2.1, h.2.2.2.1, h.2.2.2.2⟩
theorem Nc.up {w k w' k' : Nat} {d : PyData} (h : Nc w k d) (hw : w ≤ w') (hk : k ≤ k') : Nc w' k' d := ⟨h.so, h.sh, h.lf, Nat.le_trans h.we hw, Nat.le_trans h.de hk⟩
theorem nc_all {w k : Nat} : ∀ {xs : List PyData}, (∀ x ∈ xs, Nc w k x) → (∀ t ∈ PyData.shownAll xs, PyData.strOk t = true) ∧ PyData.showableAll xs = true ∧ PyData.leavesShortAll 13 xs = true ∧ PyData.weightAll xs ≤ xs.length * (w + 1) ∧ PyData.depthAll xs ≤ k
  | [], _ => ⟨(fun t ht => nomatch ht), rfl, rfl, Nat.zero_le _, Nat.zero_le _⟩
  | x :: xs, h => by
    have hx := h x (by simp)
    obtain ⟨h1, h2, h3, h4, h5⟩ := nc_all (xs := xs) fun y hy => h y (List.mem_cons_of_mem _ hy)
    refine ⟨fun t ht => ?_, ?_, ?_, ?_, ?_⟩
    · simp only [PyData.shownAll] at ht
      rcases List.mem_cons.mp ht with rfl | ht
      · exact hx.so
      · exact h1 t ht
    · simp only [PyData.showableAll, hx.sh, h2, Bool.and_self]
    · simp only [PyData.leavesShortAll, hx.lf, h3, Bool.and_self]
    · simp only [PyData.weightAll, List.length_cons, Nat.add_mul, Nat.one_mul]
      have := hx.we
      omega
    · simp only [PyData.depthAll]
      have := hx.de
      omega
theorem Nc.tup {w k n : Nat} {xs : List PyData} (h : ∀ x ∈ xs, Nc w k x) (hn : xs.length ≤ n) : Nc (n * (w + 1)) (k + 1) (.tuple xs) := by
  obtain ⟨h1, h2, h3, h4, h5⟩ := nc_all h
  refine ⟨?_, ?_, ?_, ?_, ?_⟩
  · simp only [PyData.shown]
    exact strOk_tup h1
  · simp only [PyData.showable]
    exact h2
  · simp only [PyData.leavesShort]
    exact h3
  · simp only [PyData.weight]
    exact Nat.le_trans h4 (Nat.mul_le_mul_right _ hn)
  · simp only [PyData.depth]
    omega
theorem Nc.len {w k : Nat} {d : PyData} (h : Nc w k d) : d.shown.length ≤ 15 * w + 13 := by
  have := PyData.shown_le 13 (by decide) d h.lf
  have hw := h.we
  omega
end EX2
namespace K07
open PySem PySem.Spec PyProof.Rows L2 EX2 TX
open SL (Ins Wf dN)
/-- the names that a made method may tell -/
def U7 : List Str := tyS ++ (["z"] : List Str)
theorem okU7 : SL.OkU U7 := by
  have : ∀ z ∈ U7, PyData.strOk z = true ∧ z.length ≤ 1000 := by decide +kernel
  exact fun z hz => this z hz
theorem elU7 : ∀ z ∈ U7, ∀ y, SL.elem z = some y → y ∈ U7 := by
  have : ∀ z ∈ U7, (match SL.elem z with | some y => decide (y ∈ U7) | none => true) = true := by decide +kernel
  intro z hz y e
  have h := this z hz
  rw [e] at h
  exact of_decide_eq_true h
theorem nm4U : ∀ c ∈ nm4, c ∈ U7 ∧ (c ++ SL.brk) ∈ U7 := by decide +kernel
theorem tyU : ∀ c ∈ tyS, c ∈ U7 := fun c h => List.mem_append_left _ h
def words7 : List Str := ((["new", "array", "null", "move", "get", "put", "call", "ask"] : List Str) ++ (["cast", "load", "store", "jump", "ifnull", "ifis", "choose", "tell", "return", "f", "g"] : List Str)) ++ tyS
theorem words_nc : ∀ z ∈ words7, ncB 18 1 (.str z) = true := by decide +kernel
theorem ints_nc0 : ∀ n ∈ List.range 40, ncB 18 1 (.int (n : Nat)) = true := by decide +kernel
theorem words_nc8 : ∀ z ∈ tyS, ncB 8 0 (.str z) = true := by decide +kernel
theorem ints_nc8 : ∀ n ∈ List.range 40, ncB 8 0 (.int (n : Nat)) = true := by decide +kernel
theorem nS {z : Str} (h : z ∈ words7) : Nc 18 1 (.str z) := .of (words_nc z h)
theorem nT {z : Str} (h : z ∈ tyS) : Nc 18 1 (.str z) := nS (List.mem_append_right _ h)
theorem nM {z : Str} (h : z ∈ nm4) : Nc 18 1 (.str z) := by
  have : ∀ z ∈ nm4, ncB 18 1 (.str z) = true := by decide +kernel
  exact .of (this z h)
theorem nI {n : Nat} (h : n < 40) : Nc 18 1 (.int (n : Nat)) := .of (ints_nc0 n (List.mem_range.mpr h))
theorem nCall {m : Int} {fn : Str} {ks : List PyData} {t : Str} {as : List PyData} (h : CallP m fn ks t as) (hm : m ≤ 10) : Nc 18 1 (.tuple ks) ∧ Nc 18 1 (.tuple as) ∧ Nc 18 1 (.str fn) ∧ Nc 18 1 (.str t) := by
  refine ⟨Nc.tup (w := 8) (k := 0) (n := 2) (fun x hx => ?_) h.kl, Nc.tup (w := 8) (k := 0) (n := 2) (fun x hx => ?_) (by rw [h.al]; exact h.kl), ?_, nT h.t⟩
  · obtain ⟨z, hz, rfl⟩ := h.ks x hx
    exact .of (words_nc8 z hz)
  · obtain ⟨i, rfl, i0, i1⟩ := h.as x hx
    obtain ⟨n, rfl⟩ := Int.eq_ofNat_of_zero_le i0
    exact .of (ints_nc8 n (List.mem_range.mpr (by omega)))
  · rcases h.fn with rfl | rfl <;> exact nS (by decide +kernel)
/-- a made instruction -/
theorem ins_of {sz : Nat} {n : Int} {d : PyData} (h : InsP (sz : Int) n d) (hs : sz ≤ 10) (hn : n ≤ 40) : (∃ i : Ins, d = i.data ∧ Wf U7 sz i) ∧ Nc 152 2 d := by
  have w8 : ∀ {xs : List PyData}, xs.length ≤ 8 → (∀ x ∈ xs, Nc 18 1 x) → Nc 152 2 (.tuple xs) := fun hl h => Nc.tup (w := 18) (k := 1) (n := 8) h hl
  have nat : ∀ {r b : Int}, 0 ≤ r → r < b → b ≤ 40 → ∃ k : Nat, r = (k : Int) ∧ (k : Int) < b ∧ k < 40 := fun {r b} h0 h1 h2 => by
    obtain ⟨k, rfl⟩ := Int.eq_ofNat_of_zero_le h0
    exact ⟨k, rfl, h1, by omega⟩
  have h10 : (sz : Int) ≤ 40 := by omega
  have lt : ∀ {k : Nat}, (k : Int) < (sz : Int) → k < sz := fun h => Int.ofNat_lt.mp h
  cases h with
  | new r c r0 r1 hc =>
    obtain ⟨r, rfl, r1, r2⟩ := nat r0 r1 h10
    refine ⟨⟨.new r c, rfl, lt r1, (nm4U c hc).1⟩, w8 (by simp) ?_⟩
    simp only [List.forall_mem_cons]
    exact ⟨nS (by decide +kernel), nI r2, nM hc, fun _ h => nomatch h⟩
  | array r c k r0 r1 hc k0 k1 =>
    obtain ⟨r, rfl, r1, r2⟩ := nat r0 r1 h10
    obtain ⟨k', rfl⟩ := Int.eq_ofNat_of_zero_le k0
    refine ⟨⟨.array r c k', rfl, lt r1, (nm4U c hc).2⟩, w8 (by simp) ?_⟩
    simp only [List.forall_mem_cons]
    exact ⟨nS (by decide +kernel), nI r2, nM hc, nI (by omega), fun _ h => nomatch h⟩
  | null r r0 r1 =>
    obtain ⟨r, rfl, r1, r2⟩ := nat r0 r1 h10
    refine ⟨⟨.null r, rfl, lt r1⟩, w8 (by simp) ?_⟩
    simp only [List.forall_mem_cons]
    exact ⟨nS (by decide +kernel), nI r2, fun _ h => nomatch h⟩
  | move r s r0 r1 s0 s1 =>
    obtain ⟨r, rfl, r1, r2⟩ := nat r0 r1 h10
    obtain ⟨s, rfl, s1, s2⟩ := nat s0 s1 h10
    refine ⟨⟨.move r s, rfl, lt r1, lt s1⟩, w8 (by simp) ?_⟩
    simp only [List.forall_mem_cons]
    exact ⟨nS (by decide +kernel), nI r2, nI s2, fun _ h => nomatch h⟩
  | get r s c t r0 r1 s0 s1 hc ht =>
    obtain ⟨r, rfl, r1, r2⟩ := nat r0 r1 h10
    obtain ⟨s, rfl, s1, s2⟩ := nat s0 s1 h10
    refine ⟨⟨.get r s c "f" t, rfl, lt r1, lt s1, tyU t ht⟩, w8 (by simp) ?_⟩
    simp only [List.forall_mem_cons]
    exact ⟨nS (by decide +kernel), nI r2, nI s2, nM hc, nS (by decide +kernel), nT ht, fun _ h => nomatch h⟩
  | put r s c t r0 r1 s0 s1 hc ht =>
    obtain ⟨r, rfl, r1, r2⟩ := nat r0 r1 h10
    obtain ⟨s, rfl, s1, s2⟩ := nat s0 s1 h10
    refine ⟨⟨.put r s c "f" t, rfl, lt r1, lt s1⟩, w8 (by simp) ?_⟩
    simp only [List.forall_mem_cons]
    exact ⟨nS (by decide +kernel), nI r2, nM hc, nS (by decide +kernel), nT ht, nI s2, fun _ h => nomatch h⟩
  | call r s c fn ks t as r0 r1 s0 s1 hc hp =>
    obtain ⟨r, rfl, r1, r2⟩ := nat r0 r1 h10
    obtain ⟨s, rfl, s1, s2⟩ := nat s0 s1 h10
    obtain ⟨n1, n2, n3, n4⟩ := nCall hp (by omega)
    refine ⟨⟨.call r s c fn ks t as, rfl, lt r1, lt s1, tyU t hp.t⟩, w8 (by simp) ?_⟩
    simp only [List.forall_mem_cons]
    exact ⟨nS (by decide +kernel), nI r2, nI s2, nM hc, n3, n1, n4, n2, fun _ h => nomatch h⟩
  | ask r s c fn ks t as r0 r1 s0 s1 hc hp =>
    obtain ⟨r, rfl, r1, r2⟩ := nat r0 r1 h10
    obtain ⟨s, rfl, s1, s2⟩ := nat s0 s1 h10
    obtain ⟨n1, n2, n3, n4⟩ := nCall hp (by omega)
    refine ⟨⟨.ask r s c fn ks t as, rfl, lt r1, lt s1, tyU t hp.t⟩, w8 (by simp) ?_⟩
    simp only [List.forall_mem_cons]
    exact ⟨nS (by decide +kernel), nI r2, nI s2, nM hc, n3, n1, n4, n2, fun _ h => nomatch h⟩
  | cast r s c r0 r1 s0 s1 hc =>
    obtain ⟨r, rfl, r1, r2⟩ := nat r0 r1 h10
    obtain ⟨s, rfl, s1, s2⟩ := nat s0 s1 h10
    refine ⟨⟨.cast r s c, rfl, lt r1, lt s1, (nm4U c hc).1⟩, w8 (by simp) ?_⟩
    simp only [List.forall_mem_cons]
    exact ⟨nS (by decide +kernel), nI r2, nI s2, nM hc, fun _ h => nomatch h⟩
  | load r s r0 r1 s0 s1 =>
    obtain ⟨r, rfl, r1, r2⟩ := nat r0 r1 h10
    obtain ⟨s, rfl, s1, s2⟩ := nat s0 s1 h10
    refine ⟨⟨.load r s 1, rfl, lt r1, lt s1⟩, w8 (by simp) ?_⟩
    simp only [List.forall_mem_cons]
    exact ⟨nS (by decide +kernel), nI r2, nI s2, nI (n := 1) (by decide), fun _ h => nomatch h⟩
  | store r s r0 r1 s0 s1 =>
    obtain ⟨r, rfl, r1, r2⟩ := nat r0 r1 h10
    obtain ⟨s, rfl, s1, s2⟩ := nat s0 s1 h10
    refine ⟨⟨.store r s 0, rfl, lt r1, lt s1⟩, w8 (by simp) ?_⟩
    simp only [List.forall_mem_cons]
    exact ⟨nS (by decide +kernel), nI r2, nI (n := 0) (by decide), nI s2, fun _ h => nomatch h⟩
  | jump t t0 t1 =>
    obtain ⟨t, rfl, t1, t2⟩ := nat t0 t1 hn
    refine ⟨⟨.jump t, rfl, trivial⟩, w8 (by simp) ?_⟩
    simp only [List.forall_mem_cons]
    exact ⟨nS (by decide +kernel), nI t2, fun _ h => nomatch h⟩
  | ifnull r t r0 r1 t0 t1 =>
    obtain ⟨r, rfl, r1, r2⟩ := nat r0 r1 h10
    obtain ⟨t, rfl, t1, t2⟩ := nat t0 t1 hn
    refine ⟨⟨.ifnull r t, rfl, lt r1⟩, w8 (by simp) ?_⟩
    simp only [List.forall_mem_cons]
    exact ⟨nS (by decide +kernel), nI r2, nI t2, fun _ h => nomatch h⟩
  | ifis r c t r0 r1 hc t0 t1 =>
    obtain ⟨r, rfl, r1, r2⟩ := nat r0 r1 h10
    obtain ⟨t, rfl, t1, t2⟩ := nat t0 t1 hn
    refine ⟨⟨.ifis r c t, rfl, lt r1, (nm4U c hc).1⟩, w8 (by simp) ?_⟩
    simp only [List.forall_mem_cons]
    exact ⟨nS (by decide +kernel), nI r2, nM hc, nI t2, fun _ h => nomatch h⟩
  | choose t t0 t1 =>
    obtain ⟨t, rfl, t1, t2⟩ := nat t0 t1 hn
    refine ⟨⟨.choose t, rfl, trivial⟩, w8 (by simp) ?_⟩
    simp only [List.forall_mem_cons]
    exact ⟨nS (by decide +kernel), nI t2, fun _ h => nomatch h⟩
  | tell r r0 r1 =>
    obtain ⟨r, rfl, r1, r2⟩ := nat r0 r1 h10
    refine ⟨⟨.tell r, rfl, lt r1⟩, w8 (by simp) ?_⟩
    simp only [List.forall_mem_cons]
    exact ⟨nS (by decide +kernel), nI r2, fun _ h => nomatch h⟩
  | ret r r0 r1 =>
    obtain ⟨r, rfl, r1, r2⟩ := nat r0 r1 h10
    refine ⟨⟨.ret r, rfl, lt r1⟩, w8 (by simp) ?_⟩
    simp only [List.forall_mem_cons]
    exact ⟨nS (by decide +kernel), nI r2, fun _ h => nomatch h⟩
/-- a made code -/
theorem code_ins {sz : Nat} {n : Int} (hs : sz ≤ 10) (hn : n ≤ 40) : ∀ {cd : List PyData}, (∀ d ∈ cd, InsP (sz : Int) n d) → ∃ is : List Ins, cd = is.map Ins.data ∧ (∀ i ∈ is, Wf U7 sz i) ∧ ∀ d ∈ cd, Nc 152 2 d
  | [], _ => ⟨[], rfl, (fun _ h => nomatch h), fun _ h => nomatch h⟩
  | d :: cd, h => by
    obtain ⟨⟨i, hi, wi⟩, nd⟩ := ins_of (h d (by simp)) hs hn
    obtain ⟨is, hc, ws, ns⟩ := code_ins hs hn (cd := cd) fun e he => h e (List.mem_cons_of_mem _ he)
    refine ⟨i :: is, by rw [List.map_cons, hi, hc], fun j hj => ?_, fun e he => ?_⟩
    · rcases List.mem_cons.mp hj with rfl | hj
      · exact wi
      · exact ws j hj
    · rcases List.mem_cons.mp he with rfl | he
      · exact nd
      · exact ns e he
theorem strs_of : ∀ {ps : List PyData}, (∀ k ∈ ps, ∃ z ∈ tyS, k = .str z) → ∃ pl : List Str, ps = pl.map .str ∧ ∀ k ∈ pl, k ∈ tyS
  | [], _ => ⟨[], rfl, fun _ h => nomatch h⟩
  | p :: ps, h => by
    obtain ⟨z, hz, rfl⟩ := h p (by simp)
    obtain ⟨pl, e, hp⟩ := strs_of (ps := ps) fun k hk => h k (List.mem_cons_of_mem _ hk)
    refine ⟨z :: pl, by rw [List.map_cons, e], fun k hk => ?_⟩
    rcases List.mem_cons.mp hk with rfl | hk
    · exact hz
    · exact hp k hk
/-- a made method -/
theorem meth_of {K : PySem.W.Frag} {H : Hp} {m : V} {ps : List PyData} {r : Str} {szi : Int} {cd : List PyData} (h : MethAt (He.ga K "Method") H m (.str "m") ps (.str r) (.int szi) cd) (mp : MethP ps r szi cd) {o : Str} (ho : o ∈ U7) :
    ∃ (pl : List Str) (sz : Nat) (is : List Ins), MAt K H m pl sz is ∧ Ok7 U7 o pl sz is ∧ CodeS is := by
  obtain ⟨pl, rfl, hpl⟩ := strs_of mp.pt
  have s0 := mp.s0
  have s1 := mp.s1
  have c0 := mp.c0
  have c1 := mp.c1
  obtain ⟨sz, rfl⟩ := Int.eq_ofNat_of_zero_le (a := szi) (by omega)
  obtain ⟨is, rfl, hw, hn⟩ := code_ins (sz := sz) (by omega) (by omega) mp.ci
  rw [List.length_map] at s0 c0 c1
  obtain ⟨x, dx, p, c, rfl, hx, hp, hc⟩ := h.ex
  have N := Nc.tup (w := 152) (k := 2) (n := 15) hn (by rw [List.length_map]; exact c1)
  refine ⟨pl, sz, is, ⟨x, dx, _, p, _, c, rfl, hx, hp, hc⟩, ⟨okU7, elU7, by decide, ho, fun k hk => tyU k (hpl k hk), by omega, by omega, c0, by omega, hw⟩, ⟨⟨N.sh, ?_, ?_⟩, N.so⟩⟩
  · have := N.len
    omega
  · have := N.de
    omega
end K07
set_option Elab.async false
set_option linter.all false
set_option maxRecDepth 100000
set_option maxHeartbeats 0
namespace K07
open PySem PySem.Spec PyProof.Rows L2 EX2 TX LamX
open SL (setT rowT orT setL rowL orL CanS CanR newR Ins Wf dN leadT)
abbrev slaw7 : Stmt := top 52
theorem sqL_extN {K : PySem.W.Frag} {H H' : Hp} {a : Addr} {xs : List V} (e : ExtN H H') (h : SqL K H a xs) : SqL K H' a xs := by
  rcases h with (h | ⟨o, h⟩) | h
  · exact .inl (.inl (e _ _ h fun _ z => nomatch z))
  · exact .inl (.inr ⟨o, e _ _ h fun _ z => nomatch z⟩)
  · exact .inr h
def spLaw7 (K : PySem.W.Frag) (cT : Addr) : Sp := fun vs H Q _ => ∃ (a : Addr) (ns : List Int), vs = [.ref a] ∧ SqL K H a (ns.map V.int) ∧ ns.length ≤ 100000 ∧ Tabs [(cT, qL)] H ∧ ∀ H', Q (.bl true) H'
section
variable {P : Program} {w : World} {K : PySem.W.Frag} {mg : Str → Option Value} {base : Heap} {f : Addr} {fd : FuncData}
/-- all that the law needs -/
structure LawF (P : Program) (w : World) (K : PySem.W.Frag) (mg : Str → Option Value) (base : Heap) (cC cT : Addr) : Prop where
  d : Defs w K mg
  m : MethF K mg
  x : ExcF P w K mg base
  nf : NameF P w K mg base
  nn : NamesNe K
  im : InsM K
  sdf : SetDefs K mg
  g : MGet P w K mg base
  pd : PDefs K mg
  ld : LDefs K mg
  sd : SysD base
  gR : mg "repr" = none
  tb : TabB base mg cC cT
  err : ∃ f fd, mg "_law_errors_right" = some (.ref f) ∧ FnP K "_law_errors_right" serr f fd ∧ ∀ cdv, CodeAt K f cdv → cdv = .ref cC
  table : ∃ f fd, mg "least_table" = some (.ref f) ∧ FnP K "least_table" stable f fd
  refd : ∃ f fd, mg "_law_refused" = some (.ref f) ∧ FnP K "_law_refused" srefu f fd
  least : ∃ f fd, mg "_law_least" = some (.ref f) ∧ FnP K "_law_least" slleast f fd
  shown : ∃ f fd, mg "_law_shown" = some (.ref f) ∧ FnP K "_law_shown" slshown f fd
abbrev nlaw7 : List Str := ["_law_script", "_law_turn", "_law_source_here", "_law_owner", "_law_method_here", "_law_due"]
theorem sclaw7 : FnScope nlaw7 ["_law_script"] (defScope slaw7) := ⟨rfl, rfl, rfl, by decide +kernel, rfl, by decide +kernel, by decide +kernel⟩
theorem ok_law {cC cT : Addr} (F : FnP K "law" slaw7 f fd) (LF : LawF P w K mg base cC cT) : FnOkG P w K mg base 10 f fd ["_law_script"] (spLaw7 K cT) := by
  have D := LF.d
  have T := D.t
  have M := LF.m
  obtain ⟨fS, fdS, gS, FS⟩ := D.source
  have GS : FnOk P w K mg base CX0 1 fS fdS ["_law_script", "_law_turn"] (spSource K) := ok_source FS T
  have bS : Binds K fdS ["_law_script", "_law_turn"] [] := FS.bindsN fun _ _ _ _ _ _ us hl => match us, hl with | [_, _], _ => rfl
  obtain ⟨fD, fdD, gD, FD⟩ := D.draw
  have GD : FnOk P w K mg base CX0 1 fD fdD ["_law_source_here", "_law_amount"] spDr := okL_draw FD D
  have bD : Binds K fdD ["_law_source_here", "_law_amount"] [] := FD.bindsN fun _ _ _ _ _ _ us hl => match us, hl with | [_, _], _ => rfl
  obtain ⟨fP, fdP, gP, FP⟩ := D.pick
  have GP : FnOk P w K mg base CX0 2 fP fdP ["_law_source_here", "_law_items"] spPick := ok_pick FP D
  have bP : Binds K fdP ["_law_source_here", "_law_items"] [] := FP.bindsN fun _ _ _ _ _ _ us hl => match us, hl with | [_, _], _ => rfl
  obtain ⟨fH, fdH, gH, FH⟩ := D.method
  have GH : FnOk P w K mg base CX0 8 fH fdH ["_law_source_here", "_law_is_ready"] (spMethod (He.ga K "Method")) := ok_method FH D M LF.x
  have bH : Binds K fdH ["_law_source_here", "_law_is_ready"] [] := FH.bindsN fun _ _ _ _ _ _ us hl => match us, hl with | [_, _], _ => rfl
  obtain ⟨fE, fdE, gE, FE, hcE⟩ := LF.err
  obtain ⟨fT, fdT, gT, FT⟩ := LF.table
  obtain ⟨fR, fdR, gRf, FR⟩ := LF.refd
  have GE : FnOkG P w K mg base 9 fE fdE ["_law_method_here"] (spErr K cT) := ok_err FE hcE LF.tb D M LF.x LF.nf LF.nn LF.im LF.sdf LF.g LF.pd LF.sd LF.gR FT gT FR gRf
  have bE : Binds K fdE ["_law_method_here"] [] := FE.bindsN fun _ _ _ _ _ _ us hl => match us, hl with | [_], _ => rfl
  have GT : FnOk P w K mg base (L2.CX P w) 6 fT fdT ["owner", "method"] (spTable K) := ok_table FT D M LF.x LF.nf LF.im LF.sdf LF.g LF.pd
  have bT : Binds K fdT ["owner", "method"] [] := FT.bindsN fun _ _ _ _ _ _ us hl => match us, hl with | [_, _], _ => rfl
  obtain ⟨fL, fdL, gL, FL⟩ := LF.least
  have GL : FnOk P w K mg base CX0 4 fL fdL plleast (spLLeast K) := ok_lleast FL T LF.g LF.ld
  have bL : Binds K fdL plleast [] := FL.bindsN fun _ _ _ _ _ _ us hl => match us, hl with | [_, _], _ => rfl
  obtain ⟨fW, fdW, gW, FW⟩ := LF.shown
  have GW : FnOk P w K mg base CX0 1 fW fdW ["_law_rows"] spLShown := ok_lshown FW T
  have bW : Binds K fdW ["_law_rows"] [] := FW.bindsN fun _ _ _ _ _ _ us hl => match us, hl with | [_], _ => rfl
  refine EX2.okG F sclaw7 (fun vs H Q E h => ?_) (fun cdv A outer s H vs Q E hg hr h => ?_)
  · obtain ⟨a, ns, rfl, _⟩ := h
    rfl
  · obtain ⟨a, ns, rfl, hS, hns, hTab, hQ⟩ := h
    have hG : (A.deeper (envOfC "law" (defScope slaw7) s.heap.objs.size f cdv)).guards = some [] := by rw [EX2.guards_deeper]; exact hg
    refine ⟨_, PSs.nox (pss_cons (ps_for PassesOwn.never rfl (pi_range1 rfl T.rng (pa_cons (pe_callB (call_max2 rfl) rfl T.max boot_max (pa_cons pe_int (pa_cons (pe_callB (call_min2 rfl) rfl T.min boot_min (pa_cons (pe_callB call_len rfl T.len boot_len (pa_cons (pv 0) pa_nil)) (pa_cons pe_int pa_nil))) pa_nil))) pa_nil)) (pg_name (i := 1) sclaw7.nd rfl (Or.inl rfl))
        (pss_cons (ps_set (i := 2) sclaw7.nd rfl (Or.inl rfl) (pe_call GS (hr.mono (by decide)) rfl gS FS.kp bS .nil pass0 (pa_cons (pv 0) (pa_cons (pv 1) pa_nil))))
        (pss_cons (ps_set (i := 3) sclaw7.nd rfl (Or.inl rfl) (pe_call GP (hr.mono (by decide)) rfl gP FP.kp bP .nil pass0 (pa_cons (pv 2) (pa_cons (pe_lst (pa_cons pe_str (pa_cons pe_str (pa_cons pe_str pa_nil)))) pa_nil))))
        (pss_cons (ps_set (i := 4) sclaw7.nd rfl (Or.inl rfl) (pe_call GH (hr.mono (by decide)) rfl gH FH.kp bH .nil pass0 (pa_cons (pv 2) (pa_cons (pe_cmpR op_eq (pe_call GD (hr.mono (by decide)) rfl gD FD.kp bD .nil pass0 (pa_cons (pv 2) (pa_cons pe_int pa_nil))) pe_int (nomark _)) pa_nil))))
        (pss_cons (ps_set (i := 5) sclaw7.nd rfl (Or.inl rfl) (pe_call GW (hr.mono (by decide)) rfl gW FW.kp bW .nil pass0 (pa_cons (pe_call GL (hr.mono (by decide)) rfl gL FL.kp bL .nil pass0 (pa_cons (pv 3) (pa_cons (pv 4) pa_nil))) pa_nil)))
        (pss_cons (ps_if (PW.pt (pw_or (pt_cmpR (op_neD hr.units) (pe_call GT (hr.mono (by decide)) rfl gT FT.kp bT .nil (passes_call EX2.takes0' fun _ _ _ _ h => h) (pa_cons (pv 3) (pa_cons (pv 4) pa_nil))) (pv 5) (nomark _)) (pw_or1 (pt_cmpR (op_neD hr.units) (pe_call GT (hr.mono (by decide)) rfl gT FT.kp bT .nil (passes_call EX2.takes0' fun _ _ _ _ h => h) (pa_cons (pv 3) (pa_cons (pv 4) pa_nil))) (pv 5) (nomark _)))))
          (pss_one (ps_ret pe_bl))
          pss_nil)
        (pss_one (ps_if (pt_not (pt_val (EX2.pe_callG GE hG (hr.mono (by decide)) rfl gE FE.kp bE (pa_cons (pv 4) pa_nil))))
          (pss_one (ps_ret pe_bl))
          pss_nil))))))))
      (pss_one (ps_ret pe_bl))), ?_⟩
    have hmax : ∀ m : Int, m ≤ 40 → (if m > 1 then m else 1) ≤ 40 ∧ 1 ≤ (if m > 1 then m else 1) := fun m hm => by split <;> omega
    have hmin : (if (40 : Int) < ((ns.map V.int).length : Int) then (40 : Int) else ((ns.map V.int).length : Int)) ≤ 40 := by split <;> omega
    obtain ⟨hj1, hj2⟩ := hmax _ hmin
    refine ⟨_, rfl, _, _, rfl, Or.inl ⟨_, hS, rfl⟩, _, _, rfl, _, _, rfl, _, rfl, ?_, ?_, ?_⟩
    · exact Int.le_trans (by decide) hj2
    · exact Int.lt_of_le_of_lt hj1 (by decide)
    generalize (if (if (40 : Int) < ((ns.map V.int).length : Int) then (40 : Int) else ((ns.map V.int).length : Int)) > 1 then (if (40 : Int) < ((ns.map V.int).length : Int) then (40 : Int) else ((ns.map V.int).length : Int)) else 1) = J at hj1 hj2
    refine for_it walk_range (fun i σ H1 => ExtN H H1 ∧ Tabs [(cT, qL)] H1 ∧ ∃ v1 v2 v3 v4 v5, σ = [some (.ref a), v1, v2, v3, v4, v5]) ⟨ExtN.refl _, hTab, none, none, none, none, none, rfl⟩ (fun _ _ _ _ _ => trivial) ?_ (fun σ H1 _ => hQ H1)
    rintro i xi σ H1 H2 hi ⟨eN, tab, v1, v2, v3, v4, v5, rfl⟩ ⟨rfl, rfl⟩
    have hi8 : (i : Int) < 40 := by omega
    refine ⟨_, rfl, _, rfl, a, ns, 0 + (i : Int), rfl, sqL_extN eN hS, by omega, by omega, fun p N S hp hN hS1 hS2 => ?_⟩
    have sc0 : Sc p (upd H2 p (.lst [.int N, .int S])) := ⟨N, S, upd_same, hN, hS1, hS2⟩
    have back : ∀ H', Lx p (upd H2 p (.lst [.int N, .int S])) H' → Evl.Ex H2 H' := fun H' l => Lx.back (H1 := H2) hp l
    generalize (upd H2 p (.lst [.int N, .int S])) = H3 at sc0 back
    refine ⟨_, rfl, le_line (by simp), fun l hl => ?_⟩
    have el := Evl.Ex.new (o := .lst [.str "a", .str "b", .str "z"]) hl
    refine ⟨p, l, _, rfl, sc0.ex el, sc0.ne hl, upd_same, by simp, by simp, fun x H4 hx l4 => ?_⟩
    obtain ⟨o, rfl, ho⟩ : ∃ o : Str, x = .str o ∧ o ∈ (["a", "b", "z"] : List Str) := by
      simp only [List.mem_cons, List.not_mem_nil, or_false] at hx
      rcases hx with rfl | rfl | rfl
      · exact ⟨_, rfl, by simp⟩
      · exact ⟨_, rfl, by simp⟩
      · exact ⟨_, rfl, by simp⟩
    have l04 := (Lx.of sc0 el).trans l4
    have hoo : ∀ o ∈ (["a", "b", "z"] : List Str), o ∈ U7 ∧ okD (.str o) = true ∧ isNm o = true := by decide +kernel
    obtain ⟨oU, ok, onm⟩ := hoo o ho
    refine ⟨_, rfl, _, rfl, p, _, rfl, l4.sc, by decide, by decide, fun dw H5 d0 d1 l5 => ⟨rfl, p, _, rfl, l5.sc, fun m ps r szi cd H6 l6 hm mp => ?_⟩⟩
    obtain ⟨pl, sz, is, hmA, k7, cS⟩ := meth_of hm mp oU
    replace hmA := hmA.ext rm_ex
    have e26 : Evl.Ex H2 H6 := back _ ((l04.trans l5).trans l6)
    refine ⟨_, rfl, _, rfl, o, m, pl, sz, is, U7, rfl, hmA, k7, fun v T7 H7 e7 hT7 hv7 => ?_⟩
    have tl : T7.length = is.length := hT7.1.1.1
    have tc : ∀ r, some r ∈ T7 → CanR U7 sz r := hT7.1.1.2
    have c1 := k7.c1
    have s1 := k7.s1
    refine ⟨v, T7, rfl, hv7, by omega, fun r hr => by rw [(tc r hr).1]; omega, fun v8 H8 e8 hv8 => ?_⟩
    have shp : SeqAt.shaped (.tuple (T7.map orT)) = true := SL.shaped_tabT okU7 fun r hr s hs => ((tc r hr).2 s hs).over
    have lay := SeqAt.canLay_of_shaped shp
    have e68 := e7.trans e8
    have same : ∀ T', Lst U7 o pl sz is T' → T' = T7 := fun T' h => h.uniq hT7
    refine ⟨_, rfl, _, rfl, _, m, rfl, .inr (.inr ⟨o, pl, sz, is, U7, rfl, ok, onm, hmA.ext e68, k7, fun v9 T9 H9 e9 hT9 hv9 => ?_⟩)⟩
    obtain rfl := same T9 hT9
    refine ⟨_, rfl, _, _, dp_q hv9 lay, dp_q (hv8.ext e9) lay, shp, shp, _, rfl, ?_⟩
    rw [PySem.SeqAt.eqv_refl _ lay]
    refine ifF rfl ?_
    refine ⟨_, rfl, _, rfl, _, m, rfl, .inr (.inr ⟨o, pl, sz, is, U7, rfl, ok, onm, hmA.ext (e68.trans e9), k7, fun v10 T10 H10 e10 hT10 hv10 => ?_⟩)⟩
    obtain rfl := same T10 hT10
    refine ⟨_, rfl, _, _, dp_q hv10 lay, dp_q (hv8.ext (e9.trans e10)) lay, shp, shp, _, rfl, ?_⟩
    rw [PySem.SeqAt.eqv_refl _ lay]
    refine ifF rfl ?_
    have e610 := (e68.trans e9).trans e10
    refine ⟨_, rfl, m, pl, sz, is, rfl, hmA.ext e610, cS, tab.ext (e26.trans e610), fun H11 eN11 tb11 => ⟨_, rfl, ?_⟩⟩
    refine iteF ?_
    exact ⟨(eN.trans (ExtN.of (e26.trans e610))).trans eN11, tb11, _, _, _, _, _, rfl⟩
end
end K07
set_option Elab.async false
set_option linter.all false
set_option maxRecDepth 100000
set_option maxHeartbeats 0
namespace EX2
open PySem PySem.Spec PyProof.Rows L2
theorem SuF.binds {P : Program} {K : PySem.W.Frag} {qual : Str} {st : Stmt} {C f : Addr} {fd : FuncData} {ps : List Str} (F : SuF P K qual st C f fd)
    (h : ∀ (doc pm ctv : Value) (cc c : Addr) (us : List Value), us.length = ps.length → bindArgs ((NdefX.NF.mk "__init__" qual (defArgs st) (defBody st) (defScope st) [("__class__", cc)] c).fd doc pm ctv) ⟨us, []⟩ = pure (ps.zip us)) : Binds K fd ps [] := by
  obtain ⟨oc, od, osl, doc, pm, ctv, cc, c, ocl, occ, vs, file, tf, rfl, _⟩ := F.ex
  exact .all (h doc pm ctv cc c)
theorem any_free {K : PySem.W.Frag} (hb : bltB K = true) : PySem.W.nsIn K cStatics "thirdparty.any" = some none := by
  unfold bltB at hb
  simp only [Bool.and_eq_true] at hb
  exact He.eqO_ok hb.2.2.1
end EX2
namespace K07
open PySem PySem.Spec PyProof.Rows L2
abbrev PP : Program := RW.prog
theorem htop : (PP.main.scope.names.lookup ("super" : Str)).isSome = false := by decide +kernel
theorem facts {w : World} {K : PySem.W.Frag} {h : Heap} {mg : Str → Option Value} {f : Addr} (X : K.In h) (G : h.Ns mainGlobals mg) (hfa : mg ("law" : Str) = some (.ref f)) (c : EX2.SaysZ fa fn ts xs pds ex w K) :
    ∃ (fd : FuncData) (cC cT : Addr), PySem.W.tabIn K "_law_errors_right" = some (cC, cT) ∧ K.lookup cT = none ∧ (∀ (s : Shared) (v : Value), BindsTo s fd ⟨[v], []⟩ [("_law_script", v)]) ∧ ∀ base : Heap, K.In base → base.Ns mainGlobals mg → LamX.TabB base mg cC cT → EX2.FnOkG PP w K mg base 10 f fd ["_law_script"] (spLaw7 K cT) := by
  have d := c.t.d
  have hx := c.more
  unfold ex at hx
  obtain ⟨hTb, hx⟩ := Bool.and_eq_true_iff.mp hx
  obtain ⟨hTab, hx⟩ := Bool.and_eq_true_iff.mp hx
  obtain ⟨hProp, hx⟩ := Bool.and_eq_true_iff.mp hx
  obtain ⟨hx, hIns⟩ := Bool.and_eq_true_iff.mp hx
  obtain ⟨hb, hx⟩ := Bool.and_eq_true_iff.mp hx
  obtain ⟨hnod, hC⟩ := Bool.and_eq_true_iff.mp hx
  have hB : EX2.bltB K = true := by
    have h2 := hb
    unfold EX2.sudB at h2
    rw [Bool.and_eq_true] at h2
    exact h2.1
  obtain ⟨cC, cT, hTI, hTN⟩ : ∃ cC cT, PySem.W.tabIn K "_law_errors_right" = some (cC, cT) ∧ K.lookup cT = none := by
    unfold tabB at hTb
    split at hTb
    · rename_i cC cT e
      exact ⟨cC, cT, e, Option.isNone_iff_eq_none.mp hTb⟩
    · cases hTb
  obtain ⟨f0, F0⟩ := d.def_ 0 (d := dfn "is_integer" 6) rfl
  obtain ⟨f1, F1⟩ := d.def_ 1 (d := dfn "is_in_range" 7) rfl
  obtain ⟨f2, F2⟩ := d.def_ 2 (d := dfn "is_name" 8) rfl
  obtain ⟨f3, F3⟩ := d.def_ 3 (d := dfn "element_of" 9) rfl
  obtain ⟨f4, F4⟩ := d.def_ 4 (d := dfn "is_type" 10) rfl
  obtain ⟨f5, F5⟩ := d.def_ 5 (d := dfn "is_sequence" 11) rfl
  obtain ⟨f6, F6⟩ := d.def_ 6 (d := dfn "fits" 17) rfl
  obtain ⟨f7, F7⟩ := d.def_ 7 (d := dfn "is_instruction" 18) rfl
  obtain ⟨f8, F8⟩ := d.def_ 8 (d := dfn "drawers_in" 19) rfl
  obtain ⟨f9, F9⟩ := d.def_ 9 (d := dfn "targets_in" 20) rfl
  obtain ⟨f10, F10⟩ := d.def_ 10 (d := dfn "is_code" 21) rfl
  obtain ⟨f11, F11⟩ := d.def_ 11 (d := dfn "is_size" 22) rfl
  obtain ⟨f12, F12⟩ := d.def_ 12 (d := dfn "begin_row" 25) rfl
  obtain ⟨f13, F13⟩ := d.def_ 13 (d := dfn "joined_sets" 26) rfl
  obtain ⟨f14, F14⟩ := d.def_ 14 (d := dfn "joined_rows" 27) rfl
  obtain ⟨f15, F15⟩ := d.def_ 15 (d := dfn "with_set" 28) rfl
  obtain ⟨f16, F16⟩ := d.def_ 16 (d := dfn "elements_in" 29) rfl
  obtain ⟨f17, F17⟩ := d.def_ 17 (d := dfn "set_made" 30) rfl
  obtain ⟨f18, F18⟩ := d.def_ 18 (d := dfn "leads" 31) rfl
  obtain ⟨f19, F19⟩ := d.def_ 19 (d := dfn "least_rows" 32) rfl
  obtain ⟨f20, F20⟩ := d.def_ 20 (d := dfn "check_both" 33) rfl
  obtain ⟨f21, F21⟩ := d.def_ 21 (d := dfn "least_table" 34) rfl
  obtain ⟨f22, F22⟩ := d.def_ 22 (d := dfn "_law_source" 36) rfl
  obtain ⟨f23, F23⟩ := d.def_ 23 (d := dfn "_law_draw" 37) rfl
  obtain ⟨f24, F24⟩ := d.def_ 24 (d := dfn "_law_pick" 38) rfl
  obtain ⟨f25, F25⟩ := d.def_ 25 (d := dfn "_law_type" 39) rfl
  obtain ⟨f26, F26⟩ := d.def_ 26 (d := dfn "_law_call" 40) rfl
  obtain ⟨f27, F27⟩ := d.def_ 27 (d := dfn "_law_made" 41) rfl
  obtain ⟨f28, F28⟩ := d.def_ 28 (d := dfn "_law_ready" 42) rfl
  obtain ⟨f29, F29⟩ := d.def_ 29 (d := dfn "_law_method" 43) rfl
  obtain ⟨f30, F30⟩ := d.def_ 30 (d := dfn "_law_begin" 44) rfl
  obtain ⟨f31, F31⟩ := d.def_ 31 (d := dfn "_law_set_of" 45) rfl
  obtain ⟨f32, F32⟩ := d.def_ 32 (d := dfn "_law_next" 46) rfl
  obtain ⟨f33, F33⟩ := d.def_ 33 (d := dfn "_law_joined" 47) rfl
  obtain ⟨f34, F34⟩ := d.def_ 34 (d := dfn "_law_least" 48) rfl
  obtain ⟨f35, F35⟩ := d.def_ 35 (d := dfn "_law_shown" 49) rfl
  obtain ⟨f36, F36⟩ := d.def_ 36 (d := dfn "_law_refused" 50) rfl
  obtain ⟨f37, F37⟩ := d.def_ 37 (d := dfn "_law_errors_right" 51) rfl
  obtain ⟨f38, F38⟩ := d.def_ 38 (d := dfn "law" 52) rfl
  have e := hfa.symm.trans (He.glo_ok X G (d.fact 6 (f := .glo "law") rfl))
  cases e
  obtain ⟨fI, FI⟩ := d.def_ 39 (d := mth "Method" "__init__" "Method.__init__" 23 0) rfl
  obtain ⟨fPa, FPa⟩ := d.def_ 40 (d := mth "Method" "parts" "Method.parts" 23 6) rfl
  obtain ⟨fEq, FEq⟩ := d.def_ 41 (d := mth "Method" "__eq__" "Method.__eq__" 23 7) rfl
  have cl : Cls K (He.ga K "Method") := He.cls_ok (d.fact 8 (f := .cls "Method") rfl)
  have gS := He.free_ok X G (d.fact 66 (f := .free "super") rfl)
  have T : Txt K mg := ⟨He.free_ok X G (d.fact 52 (f := .free "isinstance") rfl), He.free_ok X G (d.fact 53 (f := .free "len") rfl), He.free_ok X G (d.fact 54 (f := .free "all") rfl), He.free_ok X G (d.fact 58 (f := .free "str") rfl), He.free_ok X G (d.fact 63 (f := .free "max") rfl), He.free_ok X G (d.fact 64 (f := .free "min") rfl), He.free_ok X G (d.fact 56 (f := .free "int") rfl), He.free_ok X G (d.fact 62 (f := .free "range") rfl), He.free_ok X G (d.fact 60 (f := .free "tuple") rfl), He.free_ok X G (d.fact 55 (f := .free "any") rfl), He.free_ok X G (d.fact 57 (f := .free "bool") rfl), He.free_ok X G (d.fact 59 (f := .free "list") rfl), He.free_ok X G (d.fact 61 (f := .free "zip") rfl), He.free_ok X G (d.fact 67 (f := .free "set") rfl), He.free_ok X G (d.fact 68 (f := .free "sorted") rfl)⟩
  have D : Defs w K mg := ⟨T, He.str_ok X G (d.fact 0 (f := .str "LETTERS" "abcdefghijklmnopqrstuvwxyz") rfl), He.int_ok X G (d.fact 1 (f := .int "MOST_CODE" 40) rfl), He.int_ok X G (d.fact 2 (f := .int "MOST_SIZE" 10) rfl), He.int_ok X G (d.fact 3 (f := .int "MOST_PARAMS" 4) rfl),
    He.glo_ok X G (d.fact 4 (f := .glo "FORMS") rfl), c.t.tab 0, fun z => EX2.tab_look hTab z,
    ⟨_, f0, He.glo_ok X G (d.fact 14 (f := .glo "is_integer") rfl), F0⟩,
    ⟨_, f1, He.glo_ok X G (d.fact 15 (f := .glo "is_in_range") rfl), F1⟩,
    ⟨_, f2, He.glo_ok X G (d.fact 16 (f := .glo "is_name") rfl), F2⟩,
    ⟨_, f4, He.glo_ok X G (d.fact 18 (f := .glo "is_type") rfl), F4⟩,
    ⟨_, f5, He.glo_ok X G (d.fact 19 (f := .glo "is_sequence") rfl), F5⟩,
    ⟨_, f6, He.glo_ok X G (d.fact 20 (f := .glo "fits") rfl), F6⟩,
    ⟨_, f7, He.glo_ok X G (d.fact 21 (f := .glo "is_instruction") rfl), F7⟩,
    ⟨_, f8, He.glo_ok X G (d.fact 22 (f := .glo "drawers_in") rfl), F8⟩,
    ⟨_, f9, He.glo_ok X G (d.fact 23 (f := .glo "targets_in") rfl), F9⟩,
    ⟨_, f10, He.glo_ok X G (d.fact 24 (f := .glo "is_code") rfl), F10⟩,
    ⟨_, f11, He.glo_ok X G (d.fact 25 (f := .glo "is_size") rfl), F11⟩,
    ⟨_, f22, He.glo_ok X G (d.fact 36 (f := .glo "_law_source") rfl), F22⟩,
    ⟨_, f23, He.glo_ok X G (d.fact 37 (f := .glo "_law_draw") rfl), F23⟩,
    ⟨_, f24, He.glo_ok X G (d.fact 38 (f := .glo "_law_pick") rfl), F24⟩,
    ⟨_, f25, He.glo_ok X G (d.fact 39 (f := .glo "_law_type") rfl), F25⟩,
    ⟨_, f26, He.glo_ok X G (d.fact 40 (f := .glo "_law_call") rfl), F26⟩,
    ⟨_, f27, He.glo_ok X G (d.fact 41 (f := .glo "_law_made") rfl), F27⟩,
    ⟨_, f28, He.glo_ok X G (d.fact 42 (f := .glo "_law_ready") rfl), F28⟩,
    ⟨_, f29, He.glo_ok X G (d.fact 43 (f := .glo "_law_method") rfl), F29⟩⟩
  have SD : SetDefs K mg := ⟨⟨_, f3, He.glo_ok X G (d.fact 17 (f := .glo "element_of") rfl), F3⟩, ⟨_, f12, He.glo_ok X G (d.fact 26 (f := .glo "begin_row") rfl), F12⟩, ⟨_, f13, He.glo_ok X G (d.fact 27 (f := .glo "joined_sets") rfl), F13⟩, ⟨_, f14, He.glo_ok X G (d.fact 28 (f := .glo "joined_rows") rfl), F14⟩, ⟨_, f15, He.glo_ok X G (d.fact 29 (f := .glo "with_set") rfl), F15⟩, ⟨_, f16, He.glo_ok X G (d.fact 30 (f := .glo "elements_in") rfl), F16⟩, ⟨_, f17, He.glo_ok X G (d.fact 31 (f := .glo "set_made") rfl), F17⟩, ⟨_, f18, He.glo_ok X G (d.fact 32 (f := .glo "leads") rfl), F18⟩, ⟨_, f19, He.glo_ok X G (d.fact 33 (f := .glo "least_rows") rfl), F19⟩⟩
  have PD : PDefs K mg := ⟨⟨_, f20, He.glo_ok X G (d.fact 34 (f := .glo "check_both") rfl), F20⟩, ⟨_, f19, He.glo_ok X G (d.fact 33 (f := .glo "least_rows") rfl), F19⟩⟩
  have LD : LDefs K mg := ⟨⟨_, f30, He.glo_ok X G (d.fact 44 (f := .glo "_law_begin") rfl), F30⟩, ⟨_, f31, He.glo_ok X G (d.fact 45 (f := .glo "_law_set_of") rfl), F31⟩, ⟨_, f32, He.glo_ok X G (d.fact 46 (f := .glo "_law_next") rfl), F32⟩, ⟨_, f33, He.glo_ok X G (d.fact 47 (f := .glo "_law_joined") rfl), F33⟩⟩
  have M : MethF K mg := ⟨He.glo_ok X G (d.fact 5 (f := .glo "Method") rfl), He.mkr_ok (d.fact 7 (f := .mkr "Method") rfl), cl, He.noat_ok (d.fact 9 (f := .noat "Method" "own_name") rfl), He.noat_ok (d.fact 10 (f := .noat "Method" "own_params") rfl), He.noat_ok (d.fact 11 (f := .noat "Method" "own_result") rfl), He.noat_ok (d.fact 12 (f := .noat "Method" "own_size") rfl), He.noat_ok (d.fact 13 (f := .noat "Method" "own_code") rfl), He.meth_ok (d.fact 72 (f := .meth "Method" "parts") rfl), He.meth_ok (d.fact 73 (f := .meth "Method" "__eq__") rfl), ⟨fPa, FPa⟩, ⟨fEq, FEq⟩, ⟨fI, FI⟩⟩
  obtain ⟨gN, fdN, FN⟩ := EX2.sud_at (P := PP) hb c.sup 0 (d := sd "InvalidName" "InvalidName.__init__" 2 ["given"]) rfl
  obtain ⟨g, fdX, FX⟩ := EX2.sud_at (P := PP) hb c.sup 1 (d := sd "InvalidMethod" "InvalidMethod.__init__" 3 ["given"]) rfl
  have b := FunD.bindsA (ps := ["_law_script"]) F38 fun _ _ _ _ _ _ us hl => match us, hl with | [_], _ => rfl
  refine ⟨f38, cC, cT, hTI, hTN, fun s v => b s [v] rfl, fun base KB _ TB => ?_⟩
  have XF : ExcF PP w K mg base := ⟨He.glo_ok X G (d.fact 70 (f := .glo "InvalidMethod") rfl), He.glo_ok X G (d.fact 71 (f := .glo "ClassError") rfl), g, ⟨fdX, EX2.ok_x1 FX g.t (g.no _ (List.mem_singleton.mpr rfl)) rfl (NdefX.nscope_by (by decide +kernel)) rfl rfl g.su g.self (EX2.any_free hB) rfl gS htop (by decide) (by decide),
    FX.binds fun _ _ _ _ _ us hl => match us, hl with | [_, _], _ => rfl⟩, hC⟩
  have NF : NameF PP w K mg base := ⟨He.glo_ok X G (d.fact 69 (f := .glo "InvalidName") rfl), gN, ⟨fdN, EX2.ok_x1 FN gN.t (gN.no _ (List.mem_singleton.mpr rfl)) rfl (NdefX.nscope_by (by decide +kernel)) rfl rfl gN.su gN.self (EX2.any_free hB) rfl gS htop (by decide) (by decide),
    FN.binds fun _ _ _ _ _ us hl => match us, hl with | [_, _], _ => rfl⟩⟩
  have NN : NamesNe K := by
    have hn := of_decide_eq_true hnod
    simp only [List.map_cons, List.map_nil, List.nodup_cons, List.mem_cons, List.not_mem_nil, or_false, not_or, not_false_eq_true, List.nodup_nil, and_true] at hn
    exact ⟨hn.2, fun z => hn.1.1 z.symm⟩
  have IM : InsM K := by
    have hi := hIns
    unfold insB at hi
    rw [Bool.and_eq_true, Bool.and_eq_true, Bool.and_eq_true] at hi
    have hk : ∀ t ∈ (["NoneType", "str", "tuple", "int"] : List String), PySem.W.kitOne K (.type t) (.ref (He.ga K "Method")) = some false := fun t ht => of_decide_eq_true (List.all_eq_true.mp hi.1.1 t ht)
    have hb2 := hB
    unfold EX2.bltB at hb2
    rw [Bool.and_eq_true, Bool.and_eq_true] at hb2
    exact ⟨He.eqO_ok hi.1.2, He.eqO_ok hb2.1, of_decide_eq_true hb2.2.1, of_decide_eq_true hi.2.1, hk _ (by simp), hk _ (by simp), hk _ (by simp), hk _ (by simp)⟩
  obtain ⟨fG1, FG1⟩ := c.path 1 (d := pd "params" "Method.params" 2) rfl
  have g2 : GetP PP w K mg base "params" "own_params" := ⟨EX2.propB_ok (List.all_eq_true.mp hProp "params" (by simp)), fG1, EX2.ok_get (N := ["self"]) FG1 ⟨rfl, rfl, rfl, by decide +kernel, rfl, by decide +kernel, by decide +kernel⟩ rfl (by rfl) cl (He.noat_ok (d.fact 10 (f := .noat "Method" "own_params") rfl)), FunD.bindsN FG1 fun _ _ _ _ _ _ us hl => match us, hl with | [_], _ => rfl⟩
  obtain ⟨fG3, FG3⟩ := c.path 3 (d := pd "size" "Method.size" 4) rfl
  have g4 : GetP PP w K mg base "size" "own_size" := ⟨EX2.propB_ok (List.all_eq_true.mp hProp "size" (by simp)), fG3, EX2.ok_get (N := ["self"]) FG3 ⟨rfl, rfl, rfl, by decide +kernel, rfl, by decide +kernel, by decide +kernel⟩ rfl (by rfl) cl (He.noat_ok (d.fact 12 (f := .noat "Method" "own_size") rfl)), FunD.bindsN FG3 fun _ _ _ _ _ _ us hl => match us, hl with | [_], _ => rfl⟩
  obtain ⟨fG4, FG4⟩ := c.path 4 (d := pd "code" "Method.code" 5) rfl
  have g5 : GetP PP w K mg base "code" "own_code" := ⟨EX2.propB_ok (List.all_eq_true.mp hProp "code" (by simp)), fG4, EX2.ok_get (N := ["self"]) FG4 ⟨rfl, rfl, rfl, by decide +kernel, rfl, by decide +kernel, by decide +kernel⟩ rfl (by rfl) cl (He.noat_ok (d.fact 13 (f := .noat "Method" "own_code") rfl)), FunD.bindsN FG4 fun _ _ _ _ _ _ us hl => match us, hl with | [_], _ => rfl⟩
  have hcE : ∀ cdv, EX2.CodeAt K (He.ga K "_law_errors_right") cdv → cdv = .ref cC := fun cdv hc => EX2.code_of X G (He.glo_ok X G (d.fact 51 (f := .glo "_law_errors_right") rfl)) hTI hc
  exact ok_law F38 ⟨D, M, XF, NF, NN, IM, SD, ⟨M, g2, g4, g5⟩, PD, LD, EX2.sysD_of hB KB, He.free_ok X G (d.fact 65 (f := .free "repr") rfl), TB, ⟨_, f37, He.glo_ok X G (d.fact 51 (f := .glo "_law_errors_right") rfl), F37, hcE⟩, ⟨_, f21, He.glo_ok X G (d.fact 35 (f := .glo "least_table") rfl), F21⟩, ⟨_, f36, He.glo_ok X G (d.fact 50 (f := .glo "_law_refused") rfl), F36⟩, ⟨_, f34, He.glo_ok X G (d.fact 48 (f := .glo "_law_least") rfl), F34⟩, ⟨_, f35, He.glo_ok X G (d.fact 49 (f := .glo "_law_shown") rfl), F35⟩⟩
end K07
open PySem PySem.W PySem.Calls PyProof.Rows
theorem PySem.Challenge.cw_lateclasses_k07_whole_least_tables_holds : PySem.Challenge.rw_lateclasses_k07_whole_least_tables.Holds := by
  w_on; o_law
  refine HandSHeadRun.head_any (r := OpenLaw.row K07.RW) (q := view (OpenLaw.row K07.RW).prog [51, 52]) (H := K07.hk) (ob := K07.ob) (M := 9000) (loose := K07.loose) (d := HandSHeadRun.topDef (OpenLaw.row K07.RW).prog 52) (kwd := []) K07.ob_eq
    (by kernel_rfl) (fun s => by kernel_rfl) K07.run (by kernel_rfl) (by kernel_rfl) (by kernel_rfl) (by rfl) (by first | assumption | decide +kernel) (by decide +kernel) ⟨rfl, rfl, rfl, rfl, rfl, by decide +kernel⟩ ?hw ?hc
  case hw => w_witness2
  case hc =>
    refine EX2.walk_ofGT (l := K07.RW) (n := 63) (k := 10) (x := "_law_script") (y := "_law_errors_right") (dy := HandSHeadRun.topDef (OpenLaw.row K07.RW).prog 51) rfl (by decide) (by kernel_rfl) ⟨rfl, by decide, by decide⟩ (by kernel_rfl) ?F
    intro w mg fa h Y G hmg0
    obtain ⟨K, KX, c⟩ := Y
    have hmg : mg ("law" : PySem.Str) = some (.ref fa) := by
      have e : (HandSHeadRun.topDef (OpenLaw.row K07.RW).prog 52).name = ("law" : PySem.Str) := by kernel_rfl
      rw [← e]
      exact hmg0
    obtain ⟨fd, cC, cT, hTI, hTN, hb, hF⟩ := K07.facts (w := w) KX G hmg c
    exact ⟨K, fd, K07.spLaw7 K cT, cC, cT, KX, hTI, hTN, hb, fun H a ns hl hH hS => ⟨a, ns, rfl, hS, Nat.le_trans hl (by decide), fun p hp => by rw [List.mem_singleton.mp hp]; exact LamX.TabS.nil hH, fun _ => rfl⟩, hF⟩
