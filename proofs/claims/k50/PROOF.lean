import PyProof.Rows.All
import HandS.Base
import HandS.Call
import HandS.Codes
import HandS.Comp
import HandS.Defaults
import HandS.Evl
import HandS.Exc
import HandS.ExcField
import HandS.ExcInit
import HandS.ExcIs
import HandS.ExcOwn
import HandS.ExcSuper
import HandS.Finally
import HandS.ForMost
import HandS.Head0
import HandS.Head1
import HandS.Head2
import HandS.Head3
import HandS.HeadEnd
import HandS.HeadHook1
import HandS.HeadHook2
import HandS.HeadHook3
import HandS.HeadHook4
import HandS.IsInst
import HandS.Iter
import HandS.List
import HandS.MakeKwOnly
import HandS.More
import HandS.Nested
import HandS.NoneIn
import HandS.OwnEq
import HandS.Property
import HandS.RaiseMore
import HandS.Set
import HandS.SetBool
import HandS.Star
import HandS.Strs
import HandS.Style
import HandS.Text
import HandS.TryOnly
import HandS.TupAny
import HandS.TupSets
import HandS.Walk
import HandS.Words
import HandS.WordsExc
import HandS.Zip
import HandS.Zip0
import KE.KDictDisplayH
import KE.KExcInit
import KE.KExcLine
import KE.KFromBytes
import KE.KStateDown
import KE.KSuper
import OpenK.AllK
import PyProof.AutoSeq1
import PyProof.CallFns
import PyProof.DictKinds
import PyProof.Draws
import PyProof.EqAt
import PyProof.EqKinds
import PyProof.FactsAll.set_2
import PyProof.InstNe
import PyProof.NeKinds
import PyProof.ReprRoads
import PyProof.TupleCall
import PyProof.ZipIter
import Wide.All
import Wide.FinOn
import PySem.Challenge.RW_lateclasses_k50_class_texts_written
set_option Elab.async false
set_option linter.all false
set_option maxRecDepth 100000
set_option maxHeartbeats 2000000
/-! own exceptions over an own class over Exception, whose __init__ says super().__init__(text) and stores its arguments -/
namespace EX2
open PySem PySem.Spec PyProof.Rows L2
abbrev bmE : List Value := [.type "Exception", .type "BaseException", .type "object"]
/-- what the written part says of such a class -/
structure ExK (K : PySem.W.Frag) (C : Addr) : Prop where
  init : PySem.W.excInitIn K C bmE "Exception.__new__" = true
  over : PySem.W.excOver K C bmE = true
  hdC : PySem.W.hasDictIn K C = true
  sa : PySem.W.findIn K (.ref C) "__setattr__" = some (some (.builtin "object.__setattr__"))
  exC : PySem.W.subIn K (.ref C) (.type "BaseException") = some true
  exE : PySem.W.subIn K (.ref C) (.type "Exception") = some true
  tyC : PySem.W.typeIn K (.ref C) = some (.type "type")
  kC : PySem.W.keepIn K (.ref C) = true
section
open PySem.W PySem.Calls
open Builtin Builtin.ObjectAttr
variable {prog : Program} {w : World} {A : Around} {E : Value → Shared → Prop} {R : Result → Shared → Prop} {hp : Heap} {g : Array GenState} {d : Drawn} {t : Nat} {os : OsState}
theorem taker_none {K : PySem.W.Frag} {C : Addr} {name : Str} (ha : PySem.W.findIn K (.ref C) name = some none) : PySem.W.takerIn K C name = some none := by
  unfold PySem.W.takerIn
  rw [ha]
  rfl
theorem osa_new {K : PySem.W.Frag} {name : Str} {tk : Tok} {v : Value} {x C : Addr} {fv : Array Value} (T : ExK K C)
    (X : K.In hp) (hx : hp.get? x = some { cls := .ref C, data := .fields fv }) (ha : PySem.W.findIn K (.ref C) name = some none)
    (hq : ∀ h' tk' dx, (∀ b o, b ≠ x → hp.get? b = some o → h'.get? b = some o) → hp.objs.size ≤ dx → dx ≠ x → h'.get? x = some { cls := .ref C, dict := some dx, data := .fields fv } →
      h'.Ns1 dx (fun y => if y = name then some v else none) → R (.ok (.ret .none)) ⟨h', g, d, tk', os⟩) :
    codeAny (model prog w) A (.call (.builtin "object.__setattr__") ⟨[.ref x, .str name tk, v], []⟩) R ⟨hp, g, d, t, os⟩ := by
  have I : PySem.W.InstAt hp x { cls := .ref C, data := .fields fv } C none := ⟨hx, rfl, rfl, trivial⟩
  have hxs : x ≠ hp.objs.size := Nat.ne_of_lt (Heap.lt_size hx)
  refine PySem.W.osa_openX F.store_Exception (s := ⟨hp, g, d, t, os⟩) X I T.over (taker_none ha) fun b => ?_
  obtain ⟨cd, hcd, hh⟩ := PySem.W.any_some T.hdC
  have hcls : PySem.W.Looks (model prog w) hp (classData C) cd := PySem.W.looks_clsIn X hcd
  obtain ⟨nm, bs, mro, ns, qn, hd, sn, sb, ab, col, del⟩ := cd
  dsimp only at hh
  subst hh
  show wpAny _ _ (storeInOwnDict (.ref x) (.ref C) (.str name tk) name v b) _ _ _
  unfold storeInOwnDict ownDictForStores
  repeat (first | with_reducible refine HandSPX.store_in_new ?_ ?_ | with_reducible refine wpAny_loadPart_at hx ?_ | with_reducible refine hcls.at ?_ | wp_step)
  · exact ⟨_, #[], _, (Heap.get?_update_ne _ _ _ _ hxs.symm).trans (Heap.get?_push_at rfl rfl), rfl, fun e he => absurd he (by simp), fun _ => rfl⟩
  · intro h' tk' hn' hs
    have hx₁ : (hp.push { cls := .type "dict", data := .dict #[] }).get? x = some { cls := .ref C, data := .fields fv } := Heap.get?_push_of_some _ hx
    refine hq h' tk' hp.objs.size (fun b o hb ho => ?_) (Nat.le_refl _) hxs.symm ?_ hn'
    · exact (hs.2 b (Nat.ne_of_lt (Heap.lt_size ho))).trans ((Heap.get?_update_ne _ _ _ _ hb).trans (Heap.get?_push_of_some _ ho))
    · exact (hs.2 x hxs).trans (Heap.get?_update_self _ hx₁ rfl)
theorem osa_old {K : PySem.W.Frag} {name : Str} {tk : Tok} {v : Value} {x C dx : Addr} {fv : Array Value} {m0 : Str → Option Value} {nl : List Str} (T : ExK K C)
    (X : K.In hp) (hx : hp.get? x = some { cls := .ref C, dict := some dx, data := .fields fv }) (hns : hp.Ns1 dx m0) (hw : Within m0 nl) (hz : nl.length ≤ 1000)
    (ha : PySem.W.findIn K (.ref C) name = some none)
    (hq : ∀ h' tk', (∀ b o, b ≠ dx → hp.get? b = some o → h'.get? b = some o) → h'.Ns1 dx (fun y => if y = name then some v else m0 y) → R (.ok (.ret .none)) ⟨h', g, d, tk', os⟩) :
    codeAny (model prog w) A (.call (.builtin "object.__setattr__") ⟨[.ref x, .str name tk, v], []⟩) R ⟨hp, g, d, t, os⟩ := by
  obtain ⟨oD, esD, epD, hoD, hdD, _⟩ := hns.count hw
  have I : PySem.W.InstAt hp x { cls := .ref C, dict := some dx, data := .fields fv } C (some oD) := ⟨hx, rfl, rfl, hoD⟩
  refine PySem.W.osa_openX F.store_Exception (s := ⟨hp, g, d, t, os⟩) X I T.over (taker_none ha) fun b => ?_
  obtain ⟨cd, hcd, hh⟩ := PySem.W.any_some T.hdC
  have hcls : PySem.W.Looks (model prog w) hp (classData C) cd := PySem.W.looks_clsIn X hcd
  obtain ⟨nm, bs, mro, ns, qn, hd, sn, sb, ab, col, del⟩ := cd
  dsimp only at hh
  subst hh
  show wpAny _ _ (storeInOwnDict (.ref x) (.ref C) (.str name tk) name v b) _ _ _
  unfold storeInOwnDict ownDictForStores
  repeat (first | with_reducible refine ESX.store_in_old hns hw hz ?_ | with_reducible refine wpAny_loadPart_at hx ?_ | with_reducible refine hcls.at ?_ | wp_step)
  intro h' tk' hn' hs
  exact hq h' tk' (fun b o hb ho => (hs.2 b hb).trans ho) hn'
end
end EX2
set_option Elab.async false
set_option linter.all false
set_option maxRecDepth 100000
set_option maxHeartbeats 2000000
namespace EX2
open PySem PySem.Spec PyProof.Rows L2
section
variable {X : Cx} {pins : List (Addr × Obj)} {σ : L2.St} {H : Hp} {s : Shared} {a C dx : Addr} {f : Str} {y : V} {u : Value} {fs : List (Str × V)} {Q : Unit → Shared → Prop} {E : Value → Shared → Prop} {A : Around}
/-- self.f = y, the first one -/
theorem ost_new (T : ExK X.K C) (I : Inv X pins σ H s) (e : H a = some (exo a C none)) (hno : PySem.W.findIn X.K (.ref C) f = some none) (ry : RelV y u)
    (h : ∀ dx s', H dx = none → dx ≠ a → Inv X pins σ (upd (upd H dx (exd dx [(f, y)])) a (exo a C (some dx))) s' → Q () s') : wpAny (model X.prog X.w) A (setAttr (.ref a) f u) Q E s := by
  obtain ⟨t1, ho⟩ := exo_at I.hok e
  obtain ⟨hp, g, d, t, os⟩ := s
  refine PySem.W.set_plain I.kIn (ox := { cls := .ref C, dict := none, data := .fields #[.ref t1, .none, .none, .none, .bool false, .none] }) (od := none) ⟨ho, rfl, rfl, trivial⟩ T.sa ?_
  refine EX2.osa_new T I.kIn ho hno (fun h' tk' dx k dn dne hx hn => ?_)
  have hnd : H dx = none := I.hok.fresh dn
  have nd : ∀ {b : Addr} {o : Obj}, hp.get? b = some o → b ≠ dx := fun {b o} q => Nat.ne_of_lt (Nat.lt_of_lt_of_le (Heap.lt_size q) dn)
  have na : ∀ {b : Addr}, H b = none → b ≠ a := fun {b} n z => by
    rw [z, e] at n
    cases n
  have Un1 : Un X.fs [] H (upd (upd H dx (exd dx [(f, y)])) a (exo a C (some dx))) hp h' := {
    keep := fun b o q n _ _ => k b o (na n) q
    slot := fun b o q n _ _ => ⟨o.slots, k b o (na n) q⟩
    free := fun b o q n _ => by rw [upd_ne (na n), upd_ne (nd q)]; exact n
    there := fun b o q _ => by
      by_cases hb : b = a
      · exact ⟨_, by rw [hb]; exact hx⟩
      · exact ⟨o, k b o hb q⟩
    tups := fun b xs q => by rw [upd_ne (at_ne e q exo_tup), upd_ne (ne_of_none q hnd)]; exact q
    frzs := fun b o v q => by rw [upd_ne (at_ne e q exo_frz), upd_ne (ne_of_none q hnd)]; exact q
    tbls := fun b ps q => ⟨#[], by rw [upd_ne (at_ne e q exo_tbl), upd_ne (ne_of_none q hnd), q]; simp⟩ }
  refine h dx _ hnd dne (I.un (t' := tk') Un1 fun b o q => ?_)
  by_cases hb : b = a
  · subst hb
    rw [upd_same] at q
    cases q
    exact exo_ok hx
  · rw [upd_ne hb] at q
    by_cases hd : b = dx
    · subst hd
      rw [upd_same] at q
      cases q
      exact exd_ok hn (relO_put (fs := []) ry fun g => True.intro)
    · rw [upd_ne hd] at q
      exact (I.hok b o q).stay (fun c v hc z => k c v (by
          rcases hc with hc | hc
          · rw [hc]
            exact hb
          · exact at_ne e hc exo_own) z)
        (fun c hc => by rw [upd_ne (at_ne e hc exo_own), upd_ne (ne_of_none hc hnd)]; exact hc) (fun c xs hc => by rw [upd_ne (at_ne e hc exo_tup), upd_ne (ne_of_none hc hnd)]; exact hc)
/-- self.f = y, a further one -/
theorem ost_old (T : ExK X.K C) (I : Inv X pins σ H s) (e : H a = some (exo a C (some dx))) (ed : H dx = some (exd dx fs)) (hl : fs.length ≤ 900) (hno : PySem.W.findIn X.K (.ref C) f = some none) (ry : RelV y u)
    (h : ∀ s', Inv X pins σ (upd H dx (exd dx ((f, y) :: fs))) s' → Q () s') : wpAny (model X.prog X.w) A (setAttr (.ref a) f u) Q E s := by
  obtain ⟨t1, ho⟩ := exo_at I.hok e
  obtain ⟨mA, hns, rel⟩ := exd_at I.hok ed
  have hw := within_of rel
  obtain ⟨hp, g, d, t, os⟩ := s
  obtain ⟨oD, _, _, hoD, _, _⟩ := hns.count hw
  refine PySem.W.set_plain I.kIn (ox := { cls := .ref C, dict := some dx, data := .fields #[.ref t1, .none, .none, .none, .bool false, .none] }) (od := some oD) ⟨ho, rfl, rfl, hoD⟩ T.sa ?_
  refine EX2.osa_old T I.kIn ho hns hw (by rw [List.length_map]; omega) hno (fun h' tk' k hn => ?_)
  have hd : ∃ o, h'.get? dx = some o := by
    obtain ⟨o, _, _, e', _⟩ := hn
    exact ⟨o, e'⟩
  exact h _ (I.write (t' := tk') (x := dx) (e := dx) (o := exd dx ((f, y) :: fs)) (by rw [ed]; exact True.intro) (.inl rfl) k hd (exd_ok hn (relO_put ry rel)))
end
/-- o.f = v, o an exception that is being made -/
def gOst (K : PySem.W.Frag) (f : Str) (to : TE) : TG := fun y σ H Q => to σ H fun x H2 => ∃ a C : Addr, x = .ref a ∧ ExK K C ∧ PySem.W.findIn K (.ref C) f = some none ∧
  ((H2 a = some (exo a C none) ∧ ∀ dx, H2 dx = none → dx ≠ a → Q σ (upd (upd H2 dx (exd dx [(f, y)])) a (exo a C (some dx)))) ∨
    ∃ (dx : Addr) (fs : List (Str × V)), H2 a = some (exo a C (some dx)) ∧ H2 dx = some (exd dx fs) ∧ fs.length ≤ 900 ∧ Q σ (upd H2 dx (exd dx ((f, y) :: fs))))
theorem pg_ost {X : Cx} {o : Expr} {to : TE} {f : Str} {p : Pos} (ho : PE X o to) : PG X (.Attribute o f p) (gOst X.K f to) := by
  refine ⟨fun pins s σ H v u Q I r h => ?_⟩
  refine PySem.W.kas_attr (thn (ho.run pins s σ H _ I h) fun ov s2 ⟨x, H2, I2, r2, a, C, ex, T, hno, q⟩ => ?_)
  subst ex
  obtain rfl : ov = Value.ref a := r2
  rcases q with ⟨ea, q⟩ | ⟨dx, fs, ea, ed, hl, q⟩
  · exact ost_new T I2 ea hno r fun dx s' n ne J => ⟨σ, _, J, q dx n ne⟩
  · exact ost_old T I2 ea ed hl hno r fun s' J => ⟨σ, _, J, q⟩
/-! ### the def with its cell -/
/-- such an __init__ as it stands behind the top -/
structure SuF (P : Program) (K : PySem.W.Frag) (qual : Str) (st : Stmt) (C f : Addr) (fd : FuncData) : Prop where
  ex : ∃ (oc : Value) (od : Option Addr) (osl : Array (Option Value)) (doc pm ctv : Value) (cc c : Addr) (ocl : Obj) (occ : Obj) (vs : Array Value) (file : Str) (tf : Tok),
    fd = (NdefX.NF.mk "__init__" qual (defArgs st) (defBody st) (defScope st) [("__class__", cc)] c).fd doc pm ctv ∧ K.lookup f = some ⟨oc, od, .func fd, osl⟩ ∧ PySem.W.codeIn K (.ref c) qual = true ∧
      K.lookup cc = some ocl ∧ ocl.data = .cell (some (.ref C)) ∧ K.lookup c = some occ ∧ occ.data = .fields vs ∧ vs[2]? = some (.str file tf) ∧ ((P.main.file : Str) == file) = true
  at_ : PySem.W.findIn K (.ref C) "__init__" = some (some (.ref f))
  ty : PySem.W.typeIn K (.ref f) = some (.type "function")
/-- what a made exception holds: fs its fields -/
def spX (C : Addr) (n : Nat) (fs : List V → List (Str × V)) : Sp := fun vs H Q _ => ∃ a xs, vs = .ref a :: xs ∧ xs.length = n ∧ H a = some (exo a C none) ∧
  ∀ (H' : Hp) (dx : Addr), (∀ b o, b ≠ a → H b = some o → H' b = some o) → H dx = none → dx ≠ a → H' a = some (exo a C (some dx)) → H' dx = some (exd dx (fs xs)) → Q .non H'
theorem two_ok : 2 ≤ sizeLine := by rw [sizeLine_eq]; decide
theorem type_super : bootBuiltins "super" = some (.type "super") := by kernel_rfl
section
variable {P : Program} {w : World} {K : PySem.W.Frag} {mg : Str → Option Value} {base : Heap} {f C : Addr} {fd : FuncData} {k : Nat}
theorem call_form {o : Expr} {name : Str} {apos pos : Pos} {e : Const} {j : Nat} {p3 : Pos} {env : Env} (hln : (apos.endLine == pos.line) = true) : eval (.Call (.Attribute o name apos) [.Constant e j p3] [] pos) env = (do
      let ov ← attributeBase o name env (eval o env)
      standAt apos.atName
      let (f, first) ← holding [ov] (getMethod ov name (do return (← importBound o env).getD true))
      callWith pos f first (backTo pos (starEach [.Constant e j p3] env)) []) := by
  have e1 : methodCallPos true o env apos pos = pure pos := by
    unfold methodCallPos
    rw [hln]
    rfl
  show (do
    let ov ← attributeBase o name env (eval o env)
    standAt apos.atName
    let (f, first) ← holding [ov] (getMethod ov name (do return (← importBound o env).getD true))
    let callPos ← methodCallPos true o env apos pos
    callWith callPos f first (backTo pos (starEach [.Constant e j p3] env)) []) = _
  rw [e1]
  rfl
theorem ok_xinit {qual : Str} {st : Stmt} {ps : List Str} {N : List Str} {msg : Str} {j : Nat} {p0 p1 p2 p3 p4 p5 : Pos} {rest : List Stmt} {n : Nat} {fs : List V → List (Str × V)} (F : SuF P K qual st C f fd) (T : ExK K C)
    (hb : defBody st = .Expr (.Call (.Attribute (.Call (.Name "super" p0) [] [] p1) "__init__" p2) [.Constant (.str msg) j p3] [] p4) p5 :: rest)
    (S : NdefX.NScope N (("self" : Str) :: ps) ["__class__"] (defScope st)) (hps : ps.length = n) (hks : (defScope st).names.lookup ("super" : Str) = some .globalImplicit)
    (har : ((defArgs st).posonlyargs ++ (defArgs st).args).head?.map (·.arg) = some (("self" : Str)))
    (hsu : PySem.W.ks_superIn K C C "__init__" = some (some (.builtin "Exception.__init__"))) (hmC : PySem.W.mroIn K C (.ref C) = some true) (hop : PySem.W.nsIn K cStatics "thirdparty.any" = some none)
    (hln : (p2.endLine == p4.line) = true) (gS : mg "super" = none) (htop : (P.main.scope.names.lookup ("super" : Str)).isSome = false)
    (hrest : ∀ (A : Around) (outer : List Env) (s : Shared) (H : Hp) (cc c : Addr) (a : Addr) (xs : List V) (Q : VK) (E : XK), xs.length = n → H a = some (exo a C none) →
      (∀ (H' : Hp) (dx : Addr), (∀ b o, b ≠ a → H b = some o → H' b = some o) → H dx = none → dx ≠ a → H' a = some (exo a C (some dx)) → H' dx = some (exd dx (fs xs)) → Q .non H') →
      ∃ t, PSs (NdefX.ncx CX0 P w K mg base N (NdefX.NF.mk "__init__" qual (defArgs st) (defBody st) (defScope st) [("__class__", cc)] c) f A outer s H E).nox rest t ∧ t { nx := fun _ H' => Q .non H', rt := Q } (NdefX.startF N (.ref a :: xs) [some (.ref C)]) H) :
    FnOk P w K mg base CX0 (k + 1) f fd (("self" : Str) :: ps) (spX C n fs) := by
  refine ⟨fun vs H Q E h => ?_, fun A outer s H args us vs Q E hr e0 hbi r hsp => ?_⟩
  · obtain ⟨a, xs, rfl, hl, _⟩ := h
    simp [hl, hps]
  · obtain ⟨oc, od, osl, doc, pm, ctv, cc, c, ocl, occ, fvs, file, tf, rfl, lk, hcd, lcc, dcc, lc, dc, hvs, hfile⟩ := F.ex
    have KX : K.In s.heap := e0.mod.kin.keeps fun b o e => (e0.bs b o e).1
    have lim : s.heap.NoLimit := e0.mod.nolimit.keeps fun b o e => (e0.bs b o e).1
    obtain ⟨a, xs, rfl, hl, ea, hQ⟩ := hsp
    have hvl : (V.ref a :: xs).length = (("self" : Str) :: ps).length := by simp [hl, hps]
    have gbase : ∀ {b : Addr} {o : Obj}, K.lookup b = some o → base.get? b = some o := fun e => e0.mod.kin _ _ e
    have hloc : ∀ x ∈ (("self" : Str) :: ps).zip us, (defScope st).names.lookup x.1 = some .local := fun ⟨n, v⟩ hy => S.par n (List.of_mem_zip hy).1
    refine ks_codeAny_call_defAt (binds := (("self" : Str) :: ps).zip us) hr.depth (KX _ _ lk) rfl lim (PySem.W.codeRec_of KX hcd) rfl hbi S.nocell hloc (fun h₁ hns kp => ?_) S.co S.gen S.kind
    have CA : NdefX.CellsAt [("__class__", cc)] ["__class__"] [some (.ref C)] s.heap H := by
      have hc0 : s.heap.get? cc = some ocl ∧ H cc = none := e0.bs _ _ (gbase lcc)
      refine ⟨rfl, fun y c' e => ?_, fun x y c' e1 e2 => ?_, fun i y hy => ?_⟩
      · have : c' = cc := by
          simp only [List.lookup] at e
          split at e
          · exact (Option.some.inj e).symm
          · cases e
        subst this
        exact ⟨hc0.2, _, ocl, hc0.1, dcc⟩
      · have one : ∀ z, List.lookup z [(("__class__" : Str), cc)] = some c' → z = "__class__" := fun z e => by
          simp only [List.lookup] at e
          split at e
          · rename_i q
            exact beq_iff_eq.mp q
          · cases e
        rw [one x e1, one y e2]
      · have : y = "__class__" := by
          cases i with
          | zero => exact (Option.some.inj hy).symm
          | succ i => simp at hy
        subst this
        refine ⟨cc, by simp [List.lookup], fun v hv => ?_⟩
        have : v = .ref C := by
          cases i with
          | zero => exact (Option.some.inj (Option.some.inj hv)).symm
          | succ i => simp at hv
        subst this
        exact ⟨_, rfl, ocl, hc0.1, dcc⟩
    have I : Inv (NdefX.ncx CX0 P w K mg base N (NdefX.NF.mk "__init__" qual (defArgs st) (defBody st) (defScope st) [("__class__", cc)] c) f A outer s H E) [] (NdefX.startF N (.ref a :: xs) [some (.ref C)]) H { s with heap := h₁, toks := s.toks + ((("self" : Str) :: ps).zip us).length } :=
      NdefX.inv_startN S hr.hd e0 hvl r CA hns kp
    have KX1 : K.In h₁ := KX.keeps kp
    obtain ⟨nm, Nn, qd, bs, bm, hdct, sn, sub, ab, col, dd, k0, k1, k2', k3', k5, hC1, hT⟩ := PySem.W.excInit_of KX1 T.init
    obtain ⟨t0, ho⟩ := exo_at I.hok ea
    obtain ⟨cdC, hclC, _⟩ := PySem.W.any_some T.hdC
    have hxC : a ≠ C := fun z => by
      rw [z] at ho
      rw [hC1] at ho
      cases ho
    obtain ⟨ar, har1, har2⟩ := Option.map_eq_some_iff.mp har
    have hself : ((("self" : Str) :: ps).zip us).reverse.lookup (("self" : Str)) = some (.ref a) := by
      cases r with
      | cons r1 r2 =>
        obtain rfl : _ = Value.ref a := r1
        exact NdefX.zip_look (i := 0) (by
          have q := S.nd.sublist (List.take_sublist ((("self" : Str) :: ps).length + [("__class__" : Str)].length) N)
          rw [S.pre] at q
          exact (List.nodup_append.mp q).1) rfl rfl
    obtain ⟨mb, hmb1, hmb2⟩ := e0.mod.blt
    have bk1 : ∀ b o, base.get? b = some o → h₁.get? b = some o := fun b o e => kp _ _ (e0.bs b o e).1
    show PySem.wpAt (model P w) _ (.func (defBody st) _) (execs (defBody st) _) _ _ _
    rw [hb]
    refine ks_wpAt_execs_cons (ks_wpAt_Expr_any (ks_wpAt_MethodCall (pl := do return (← importBound (.Call (.Name (("super" : Str)) p0) [] [] p1) (callEnv ((NdefX.NF.mk "__init__" qual (defArgs st) (defBody st) (defScope st) [("__class__", cc)] c).fd doc pm ctv) s.heap.objs.size f)).getD true) ?_ (call_form hln)) I.quiet)
    refine ks_wpAt_super_base (f := f) (cc := c) (ar := ar) (of := _) (oc := occ) (vs := fvs) (file := file) (tf := tf) hks (S.frk _ (by simp)) (by decide) rfl (kp _ _ (KX _ _ lk)) rfl har1 rfl (kp _ _ (KX _ _ lc)) dc hvs hfile htop ?_
    refine PySem.W.ks_loadName_global S.kind hks (Calls.loadGlobal_builtin (mg := mg) (e0.mod.glob.keeps bk1) gS (hmb1.keeps bk1) ((hmb2 _ (by decide)).trans type_super) ⟨rfl, ?_⟩)
    refine wpAny_loadName_free S.kind (S.frk _ (by simp)) rfl ⟨_, kp _ _ (KX _ _ lcc), dcc⟩ ?_
    refine wpAny_loadName_local S.kind (by rw [har2]; exact S.par _ (by simp)) hns (by rw [har2]; exact hself) ?_
    refine ks_wpAny_isType_cls hC1 rfl ⟨rfl, ?_⟩
    have IA : PySem.W.InstAt h₁ a { cls := .ref C, dict := none, data := .fields #[.ref t0, .none, .none, .none, .bool false, .none] } C none := ⟨ho, rfl, rfl, trivial⟩
    have subC : PySem.W.Looks (model P w) h₁ (isSubtype (.ref C) (.ref C)) true := PySem.W.looks_mroIn KX1 hmC
    refine ks_wpAny_call_super hC1 rfl ho rfl (fun c e => by cases e) subC (fun h2 e2 k2 => ?_)
    have I2 := I.kept (t' := s.toks + (((("self" : Str) :: ps)).zip us).length) k2
    have KX2 : K.In h2 := KX1.keeps k2
    have IA2 : PySem.W.InstAt h2 a { cls := .ref C, dict := none, data := .fields #[.ref t0, .none, .none, .none, .bool false, .none] } C none := ⟨k2 _ _ ho, rfl, rfl, trivial⟩
    have hin : PySem.W.Looks (model P w) h2 (isInstance (.ref a) (.type "Exception")) true := IA2.type.andThen (PySem.W.looks_subIn KX2 T.exE)
    have hmro : PySem.W.Looks (model P w) h2 (mroOf (.ref C)) cdC.mro := fun A Q E s k q => wpAny_bind ((PySem.W.looks_clsIn KX2 hclC) A _ E s k (wpAny_pure q))
    have hf2 : PySem.W.alongIn K "__init__" ((cdC.mro.dropWhile (· != .ref C)).drop 1) = some (some (.builtin "Exception.__init__")) := by
      have hm := hsu
      unfold PySem.W.ks_superIn at hm
      rw [hclC] at hm
      exact hm
    refine ESX.getMethod_super e2 (PySem.W.looks_opaque KX2 hop) hmro rfl KX2 hf2 hxC (by decide) hin ?_
    have hu : (h2.push (ESX.bw a)).get? h2.objs.size = some (ESX.bw a) := Heap.get?_push_size _ rfl
    have k3 : ∀ b o, h2.get? b = some o → (h2.push (ESX.bw a)).get? b = some o := fun b o e => Heap.get?_push_of_some _ e
    have I3 := I2.kept (h' := h2.push (ESX.bw a)) (t' := s.toks + (((("self" : Str) :: ps)).zip us).length + 1) k3
    refine ESX.callWith_bound (x := a) ?_
    show wpAny _ _ (spliced ((false, eval (.Constant (.str msg) j p3) _) :: backTo p4 (starEach [] _))) _ _ _
    refine Calls.spliced_cons (Calls.Constant_str ?_)
    refine Calls.spliced_nil ⟨hu, ?_⟩
    have hC3 : (h2.push (ESX.bw a)).get? C = some (excClassObj nm qd C Nn bs bm hdct sn sub ab col dd k0 k1 k2' k3' k5 "Exception.__new__") := k3 _ _ (k2 _ _ hC1)
    refine ESX.call_bw hC3 (k3 _ _ (k2 _ _ ho)) hu (by show 1 ≤ sizeLine; rw [sizeLine_eq]; omega) fun h4 t1 k4 hx4 => ?_
    have J := I3.write (h' := h4) (x := a) (e := a) (o := exo a C none) (t' := s.toks + (((("self" : Str) :: ps)).zip us).length + 1 + 1) (by rw [ea]; exact True.intro) (.inl rfl) k4 ⟨_, hx4⟩ (exo_ok hx4)
    have eu : upd H a (exo a C none) = H := by
      funext b
      by_cases hb : b = a
      · rw [hb, upd_same, ea]
      · rw [upd_ne hb]
    rw [eu] at J
    obtain ⟨tt, ht, hq⟩ := hrest A outer s H cc c a xs Q E hl ea hQ
    refine wpAt_of_wpAny (wpAny_mono (ht.nox.run [] _ _ H _ J hq) (fun fl s' hs => ?_) fun e s' hs => hs)
    have fin : ∀ {σ' : L2.St} {H' : Hp} {v : V} {u : Value}, Inv (NdefX.ncx CX0 P w K mg base N (NdefX.NF.mk "__init__" qual (defArgs st) (defBody st) (defScope st) [("__class__", cc)] c) f A outer s H E) [] σ' H' s' → L2.RelV v u → Q v H' → CE outer P w H s Q u s' :=
      fun {σ' H' v u} J rv q => ⟨v, H', J.os, J.bare, J.base, J.hok, rv, q⟩
    cases fl with
    | ret u =>
      obtain ⟨v, σ', H', J, rv, q⟩ := hs
      exact fin J rv q
    | next =>
      obtain ⟨σ', H', J, q⟩ := hs
      exact fin (v := V.non) (u := Value.none) J rfl q
    | brk =>
      obtain ⟨_, _, _, q⟩ := hs
      exact False.elim q
    | cont =>
      obtain ⟨_, _, _, q⟩ := hs
      exact False.elim q
theorem no_swap {env : Env} (hk : env.scope.kind = .function) {o1 o2 : Expr} {a1 a2 : Str} {q1 q2 q3 : Pos} {n1 : Nat} {v : Expr} : swappedStores [.Tuple [.Attribute o1 a1 q1, .Attribute o2 a2 q2] n1 q3] v env = pure none := by
  have e : env.blockKind = .function := by
    unfold Env.blockKind
    rw [hk]
    rfl
  unfold swappedStores
  cases v <;> first | rfl | skip
  rename_i vs _ _
  simp only [e]
  split
  · rfl
  · split
    · rfl
    · rename_i h
      split
      · rfl
      · rename_i h2
        exact absurd (by rfl) h2
/-- self.fl = g -/
theorem ok_x1 {qual : Str} {st : Stmt} {msg g fl : Str} {j : Nat} {p0 p1 p2 p3 p4 p5 q1 q2 q3 q4 : Pos} (F : SuF P K qual st C f fd) (T : ExK K C) (hno : PySem.W.findIn K (.ref C) fl = some none)
    (hb : defBody st = .Expr (.Call (.Attribute (.Call (.Name "super" p0) [] [] p1) "__init__" p2) [.Constant (.str msg) j p3] [] p4) p5 :: [.Assign [.Attribute (.Name "self" q1) fl q2] (.Name g q3) q4])
    (S : NdefX.NScope ["self", g, "__class__"] [(("self" : Str)), g] ["__class__"] (defScope st)) (hks : (defScope st).names.lookup ("super" : Str) = some .globalImplicit)
    (har : ((defArgs st).posonlyargs ++ (defArgs st).args).head?.map (·.arg) = some (("self" : Str)))
    (hsu : PySem.W.ks_superIn K C C "__init__" = some (some (.builtin "Exception.__init__"))) (hmC : PySem.W.mroIn K C (.ref C) = some true) (hop : PySem.W.nsIn K cStatics "thirdparty.any" = some none)
    (hln : (p2.endLine == p4.line) = true) (gS : mg "super" = none) (htop : (P.main.scope.names.lookup ("super" : Str)).isSome = false) (hd : (g == ("__debug__" : Str)) = false) (hcd : (g == ("__classdict__" : Str)) = false) :
    FnOk P w K mg base CX0 (k + 1) f fd [(("self" : Str)), g] (spX C 1 fun xs => [(fl, xs.headD .non)]) := by
  refine ok_xinit F T hb S rfl hks har hsu hmC hop hln gS htop fun A outer s H cc c a xs Q E hl ea hQ => ?_
  match xs, hl with
  | [x], _ =>
    refine ⟨_, pss_one (ps_asg (pe_var (i := 1) rfl (.inl (S.par g (by simp))) hd hcd) (pg_ost (pe_var (i := 0) rfl (.inl (S.par _ (by simp))) (by decide) (by decide)))), ?_⟩
    refine ⟨x, rfl, .ref a, rfl, a, C, rfl, T, hno, .inl ⟨ea, fun dx hd hne => ?_⟩⟩
    refine hQ _ dx (fun b o hb e => ?_) hd hne upd_same ?_
    · rw [upd_ne hb, upd_ne (ne_of_none e hd)]
      exact e
    · rw [upd_ne hne, upd_same]
      rfl
/-- self.f1, self.f2 = g1, g2 -/
theorem ok_x2 {qual : Str} {st : Stmt} {msg g1 g2 f1 f2 : Str} {j n1 n2 : Nat} {p0 p1 p2 p3 p4 p5 q1 q2 q3 q4 q5 q6 q7 q8 q9 : Pos} (F : SuF P K qual st C f fd) (T : ExK K C) (hno1 : PySem.W.findIn K (.ref C) f1 = some none) (hno2 : PySem.W.findIn K (.ref C) f2 = some none)
    (hb : defBody st = .Expr (.Call (.Attribute (.Call (.Name "super" p0) [] [] p1) "__init__" p2) [.Constant (.str msg) j p3] [] p4) p5 :: [.Assign [.Tuple [.Attribute (.Name "self" q1) f1 q2, .Attribute (.Name "self" q3) f2 q4] n1 q5] (.Tuple [.Name g1 q6, .Name g2 q7] n2 q8) q9])
    (S : NdefX.NScope ["self", g1, g2, "__class__"] [(("self" : Str)), g1, g2] ["__class__"] (defScope st)) (hks : (defScope st).names.lookup ("super" : Str) = some .globalImplicit)
    (har : ((defArgs st).posonlyargs ++ (defArgs st).args).head?.map (·.arg) = some (("self" : Str)))
    (hsu : PySem.W.ks_superIn K C C "__init__" = some (some (.builtin "Exception.__init__"))) (hmC : PySem.W.mroIn K C (.ref C) = some true) (hop : PySem.W.nsIn K cStatics "thirdparty.any" = some none)
    (hln : (p2.endLine == p4.line) = true) (gS : mg "super" = none) (htop : (P.main.scope.names.lookup ("super" : Str)).isSome = false) (hd1 : (g1 == ("__debug__" : Str)) = false) (hcd1 : (g1 == ("__classdict__" : Str)) = false)
    (hd2 : (g2 == ("__debug__" : Str)) = false) (hcd2 : (g2 == ("__classdict__" : Str)) = false) :
    FnOk P w K mg base CX0 (k + 1) f fd [(("self" : Str)), g1, g2] (spX C 2 fun xs => [(f2, xs.getD 1 .non), (f1, xs.getD 0 .non)]) := by
  refine ok_xinit F T hb S rfl hks har hsu hmC hop hln gS htop fun A outer s H cc c a xs Q E hl ea hQ => ?_
  match xs, hl with
  | [x, y], _ =>
    refine ⟨_, pss_one (ps_asg (pe_tup (pa_cons (pe_var (i := 1) rfl (.inl (S.par g1 (by simp))) hd1 hcd1) (pa_cons (pe_var (i := 2) rfl (.inl (S.par g2 (by simp))) hd2 hcd2) pa_nil)))
      (pg_tup rfl (pgs_cons (pg_ost (pe_var (i := 0) rfl (.inl (S.par _ (by simp))) (by decide) (by decide))) (pgs_cons (pg_ost (pe_var (i := 0) rfl (.inl (S.par _ (by simp))) (by decide) (by decide))) pgs_nil))) (hw := no_swap S.kind)), ?_⟩
    refine ⟨x, rfl, y, rfl, two_ok, fun p hp => ⟨p, [x, y], rfl, SqT.of upd_same, rfl, x, [y], rfl, ?_⟩⟩
    have hap : a ≠ p := ne_of_none ea hp
    refine ⟨.ref a, rfl, a, C, rfl, T, hno1, .inl ⟨by rw [upd_ne hap]; exact ea, fun dx hd hne => ?_⟩⟩
    refine ⟨y, [], rfl, .ref a, rfl, a, C, rfl, T, hno2, .inr ⟨dx, [(f1, x)], upd_same, by rw [upd_ne hne, upd_same], by simp, rfl, ?_⟩⟩
    have hdp : H dx = none ∧ dx ≠ p := by
      by_cases e : dx = p
      · rw [e, upd_same] at hd
        cases hd
      · rw [upd_ne e] at hd
        exact ⟨hd, e⟩
    refine hQ _ dx (fun b o hb e => ?_) hdp.1 hne ?_ upd_same
    · rw [upd_ne (ne_of_none e hdp.1), upd_ne hb, upd_ne (ne_of_none e hdp.1), upd_ne (ne_of_none e hp)]
      exact e
    · rw [upd_ne (Ne.symm hne), upd_same]
end
end EX2
set_option Elab.async false
set_option linter.all false
set_option maxRecDepth 100000
set_option maxHeartbeats 2000000
namespace EX2
open PySem PySem.Spec PyProof.Rows L2
/-- C(e, ..) -/
def tMkX (C : Addr) (n : Nat) (fs : List V → List (Str × V)) (ta : TA) : TE := fun σ H Q => ta σ H fun vs H1 => vs.length = n ∧ ∀ (a dx : Addr) (H' : Hp), H1 a = none → H1 dx = none → dx ≠ a → Evl.Ex H1 H' → H' a = some (exo a C (some dx)) → H' dx = some (exd dx (fs vs)) → Q (.ref a) H'
section
variable {X : Cx} {e : Expr} {es : List Expr} {ta : TA} {p pos : Pos}
theorem pe_mkx {x : Str} {C fI : Addr} {k n : Nat} {fd : FuncData} {ps : List Str} {fs : List V → List (Str × V)} (T : ExK X.K C) (iC : PySem.W.findIn X.K (.ref C) "__init__" = some (some (.ref fI))) (tI : PySem.W.typeIn X.K (.ref fI) = some (.type "function"))
    (F1 : FnOk X.prog X.w X.K X.mg X.base CX0 k fI fd ps (spX C n fs)) (hr : Room (k + 1) X.A) (hb : Binds X.K fd ps []) (hg : Gl X x) (hm : X.mg x = some (.ref C)) (hn : n ≤ 1000) (ha : PA X (e :: es) ta)
    (hdb : (x == ("__debug__" : Str)) = false := by decide) (he : starEach (e :: es) X.env = (false, eval e X.env) :: starEach es X.env := by rfl) (hpl : (backTo pos (starEach es X.env)).any (·.1) = false := by rfl) :
    PE X (.Call (.Name x p) (e :: es) [] pos) (tMkX C n fs ta) := by
  refine ⟨fun pins s σ H Q I h => ?_⟩
  refine wpAny_Call_Name_kw (ld_glob I hg hm ?_ hdb)
  refine PySem.W.callWith_K (h₀ := X.base) I.ok.mod.kin T.kC (thn (ha.run pos pins s σ H _ I h) fun us s1 ⟨vs, H1, I1, r1, hz, q1⟩ => ⟨I1.kIn, ?_⟩) he hpl
  show wpAny _ _ (call (.ref C) us) _ _ _
  obtain ⟨nm, Nn, qd, bs, bm, hdct, sn, sub, ab, col, dd, k0, k1, k2, k3, k5, hC, hT⟩ := PySem.W.excInit_of I1.kIn T.init
  obtain ⟨hp, g, dr, tk, os⟩ := s1
  have hsz : hp.objs.size ≤ hp.objs.size + 1 := Nat.le_succ _
  have hn1 : H1 (hp.objs.size + 1) = none := I1.hok.fresh hsz
  have kk : ∀ b o, hp.get? b = some o → ((hp.push (PySem.W.kdv_tup us)).push (PySem.HandSPX.excO C hp.objs.size)).get? b = some o := fun b o e => Heap.get?_push_of_some _ (Heap.get?_push_of_some _ e)
  have hget : ((hp.push (PySem.W.kdv_tup us)).push (PySem.HandSPX.excO C hp.objs.size)).get? (hp.objs.size + 1) = some (PySem.HandSPX.excO C hp.objs.size) := by heap_get
  have I2 : Inv X pins σ (upd H1 (hp.objs.size + 1) (exo (hp.objs.size + 1) C none)) ⟨(hp.push (PySem.W.kdv_tup us)).push (PySem.HandSPX.excO C hp.objs.size), g, dr, tk, os⟩ :=
    I1.laid (t' := tk) (a := hp.objs.size + 1) (o := exo (hp.objs.size + 1) C none) (h' := (hp.push (PySem.W.kdv_tup us)).push (PySem.HandSPX.excO C hp.objs.size)) kk hsz (exo_ok hget)
  have r2 : Vals (V.ref (hp.objs.size + 1) :: vs) (Value.ref (hp.objs.size + 1) :: us) := .cons rfl r1
  have hus : us.length ≤ sizeLine := by
    rw [← Paired.length r1, hz, sizeLine_eq]
    omega
  have hsp : spX C n fs (V.ref (hp.objs.size + 1) :: vs) (upd H1 (hp.objs.size + 1) (exo (hp.objs.size + 1) C none)) (fun v H2 => v = .non ∧ Q (.ref (hp.objs.size + 1)) H2) (fun _ _ _ => False) := by
    refine ⟨_, vs, rfl, hz, upd_same, fun H' dx k1 hd hne h1 h2 => ⟨rfl, ?_⟩⟩
    rw [upd_ne hne] at hd
    refine q1 _ dx H' hn1 hd hne (fun b o hb => ?_) h1 h2
    have hba : b ≠ hp.objs.size + 1 := ne_of_none hb hn1
    refine k1 b o hba ?_
    rw [upd_ne hba]
    exact hb
  have hlen := F1.len _ _ _ _ hsp
  have hbt := hb ⟨(hp.push (PySem.W.kdv_tup us)).push (PySem.HandSPX.excO C hp.objs.size), g, dr, tk, os⟩ (Value.ref (hp.objs.size + 1) :: us) I2.kIn (by rw [List.append_nil, ← r2.length]; exact hlen)
  rw [List.append_nil] at hbt
  refine wpAny_call (PySem.HandSPX.call_own F.excBase_Exception hT hC (PySem.W.looks_findIn I1.kIn iC) (fun self => PySem.W.bind_fn I1.kIn self tI) hus
    (codeAny_mono (F1.run _ X.stack _ _ ⟨Value.ref (hp.objs.size + 1) :: us, []⟩ (Value.ref (hp.objs.size + 1) :: us) _ _ (fun _ _ _ => False) (hr.make C us []) (I2.env0.make C us []) hbt r2 hsp) fun r s' hq' => ?_))
  cases r with
  | error er => exact False.elim hq'
  | ok fl =>
    cases fl with
    | ret u =>
      have hq2 : CE X.stack X.prog X.w _ _ _ u s' := hq'
      obtain ⟨v, H2, I3, rv, ev, q2⟩ := I2.after hq2
      subst ev
      exact ⟨rv, ⟨V.ref (hp.objs.size + 1), H2, I3, rfl, q2⟩⟩
    | next => exact False.elim hq'
    | brk => exact False.elim hq'
    | cont => exact False.elim hq'
/-! ### fields -/
/-- e.f, e an exception -/
def tXg (K : PySem.W.Frag) (f : Str) (te : TE) : TE := fun σ H Q => te σ H fun x H1 => ∃ (a C dx : Addr) (fs : List (Str × V)) (v : V), x = .ref a ∧ XfC K C ∧ PySem.W.findIn K (.ref C) f = some none ∧ H1 a = some (exo a C (some dx)) ∧ H1 dx = some (exd dx fs) ∧ fs.lookup f = some v ∧ Q v H1
theorem pe_xg {f : Str} {te : TE} (he : PE X e te) (hb : attributeBase e f X.env (eval e X.env) = eval e X.env := by rfl) : PE X (.Attribute e f pos) (tXg X.K f te) := by
  refine ⟨fun pins s σ H Q I h => ?_⟩
  refine attr_of hb (thn (he.run pins s σ H _ I h) fun u s1 hh => ?_)
  obtain ⟨x, H1, I1, rx, a, C, dx, fs, v, ex, T, hno, ea, ed, l, q⟩ := hh
  subst ex
  obtain rfl : u = Value.ref a := rx
  obtain ⟨t1, ho⟩ := exo_at I1.hok ea
  obtain ⟨mA, hns, rel⟩ := exd_at I1.hok ed
  obtain ⟨od, hod, hl⟩ := lookIn_ns hns
  obtain ⟨u, hu, ru⟩ := RelO.some_of (v := v) (o := mA f) (by rw [← l]; exact rel f)
  have J : PySem.W.InstAt s1.heap a { cls := .ref C, dict := some dx, data := .fields #[.ref t1, .none, .none, .none, .bool false, .none] } C (some od) := ⟨ho, rfl, rfl, hod⟩
  exact HandSPX.exc_get I1.kIn J T.ga T.gg T.exC (PySem.W.findObj_own T.hdC hno rfl (by rw [hl, hu])) (handed_of ru) ⟨v, H1, I1.tok _, ru, q⟩
end
end EX2
set_option Elab.async false
set_option linter.all false
set_option maxRecDepth 100000
set_option maxHeartbeats 4000000
namespace PySem.W
open PySem PySem.Spec PySem.Calls PyProof.Rows
section
variable {prog : Program} {w : World} {A : Around} {E : Value → Shared → Prop} {s : Shared} {K : Frag} {x D : Addr} {ox : Obj} {od : Option Obj}
theorem findObj_dataO {C : Addr} {name : Str} {a g : Value} (hc : (clsIn K C).isSome = true) (ha : findIn K (.ref C) name = some (some a)) (hg : specialIn K a "__get__" = some (some g)) (ht : takesIn K a = some true) : findObj K C od name = some (.bind g a) := by
  obtain ⟨cd, hc⟩ := Option.isSome_iff_exists.mp hc
  unfold findObj
  rw [hc, Option.bind_some, ha, Option.bind_some]
  simp [hg, ht]
theorem kin_classD {Q : Option Value → Shared → Prop} (hga : findIn K (.ref D) "__getattribute__" = some (some (.builtin "BaseException.__getattribute__"))) (hgt : findIn K (.ref D) "__getattr__" = some none) (hsub : subIn K (.ref D) (.type "BaseException") = some true)
    (hdct : hasDictIn K D = true) (ha : findIn K (.ref D) "__class__" = some (some (.builtin "object.__class__")))
    (hn : specialIn K (.builtin "object.__class__") "__get__" = some (some (.builtin "getset_descriptor.__get__"))) (htk : takesIn K (.builtin "object.__class__") = some true) (hm : mroIn K D (.type "object") = some true)
    (X : K.In s.heap) (I : InstAt s.heap x ox D od) (h : Q (some (.ref D)) { s with toks := s.toks + 1 }) : wpAny (model prog w) A (getAttr? (.ref x) "__class__") Q E s := by
  have hf : findObj K D od "__class__" = some (.bind (.builtin "getset_descriptor.__get__") (.builtin "object.__class__")) := findObj_dataO (by obtain ⟨cd, hc, _⟩ := any_some hdct; rw [hc]; rfl) ha hn htk
  obtain ⟨hp, g, d, t, os⟩ := s
  have L0 := I.type (M := model prog w)
  have L1 := looks_findIn (M := model prog w) X hga
  have L2 := looks_findIn (M := model prog w) X hgt
  have L3 := looks_find (M := model prog w) X I hf
  have sub : Looks (model prog w) hp (isInstance (.ref x) (.type "BaseException")) true := L0.andThen (looks_subIn X hsub)
  have hx0 : (false && onTheHeap (Value.builtin "BaseException.__getattribute__")) = false := rfl
  have hx2 : (Value.builtin "BaseException.__getattribute__" == Value.builtin "object.__getattribute__") = false := by decide +kernel
  have hx1 : (onTheHeap (Value.ref D) && Value.builtin "BaseException.__getattribute__" == Value.builtin "object.__getattribute__") = false := by rw [hx2]; rfl
  unfold getAttr? getAttrBy? getAttrBy
  refine wpAny_bind (wpAny_mkText (wpAny_bind (wpAny_attempt (wpAny_holding (wpAny_bind (L0.at (wpAny_bind (L1.at ?_))))))))
  show wpAny _ _ (if (onTheHeap (Value.ref D) && Value.builtin "BaseException.__getattribute__" == Value.builtin "object.__getattribute__") = true then _ else _) _ _ _
  rw [hx1, if_neg Bool.false_ne_true]
  unfold getAttrByItsOwn hookBefore
  refine wpAny_bind ?_
  rw [if_pos (show onTheHeap (Value.ref D) = true from rfl)]
  refine L2.at ?_
  refine wpAny_bind (wpAny_attempt (wpAny_holding ?_))
  unfold callGetattribute
  rw [hx0, if_neg Bool.false_ne_true]
  unfold boundAndCalled
  rw [PySem.F.excAttr_ValueError.ga.bind (.ref x)]
  refine wpAny_bind (wpAny_pure ?_)
  show wpAny _ _ (call (.builtin "BaseException.__getattribute__") [.ref x, .str "__class__" t]) _ _ _
  refine wpAny_call (codeAny_call_builtin PySem.F.excAttr_ValueError.ga.plain PySem.F.entry_bexc_ga ?_)
  refine @check_slot (model prog w) _ _ ⟨hp, g, d, t + 1, os⟩ "BaseException.__getattribute__" "BaseException" "__getattribute__" (.ref x) [.str "__class__" t] [] _ (by decide +kernel) (by decide +kernel) sub (PySem.F.args_bexc_ga (.ref x) (.str "__class__" t)) ?_
  unfold Builtin.«object.__getattribute__»
  refine wpAny_bind (wpAny_of_eq (a := ((Value.ref x : Value), [Value.str "__class__" t])) (by first | rfl | (simp only [slotArgs]; rfl)) ?_)
  refine wpAny_bind (wpAny_pure (wpAny_bind (L0.at (wpAny_bind (L3.at ?_)))))
  show wpAny _ _ (holding [Value.builtin "object.__class__"] (call (.builtin "getset_descriptor.__get__") [.builtin "object.__class__", .ref x, .ref D]) >>= ret) _ _ _
  refine wpAny_bind (wpAny_holding (wpAny_call (class_get (s := ⟨hp, g, d, t + 1, os⟩) (ox := ox) (od := od) X I hm ?_)))
  refine wpAny_pure ?_
  show wpAny _ _ (handedOut (.ref D)) _ _ _
  rw [handedOut_of (v := .ref D) rfl]
  first
    | exact wpAny_pure (wpAny_pure h)
    | exact wpAny_pure h
    | exact wpAny_pure (wpAny_bind (wpAny_pure (wpAny_pure h)))
theorem kitx_excD (hga : findIn K (.ref D) "__getattribute__" = some (some (.builtin "BaseException.__getattribute__"))) (hgt : findIn K (.ref D) "__getattr__" = some none) (hsub : subIn K (.ref D) (.type "BaseException") = some true) (hdct : hasDictIn K D = true) (ha : findIn K (.ref D) "__class__" = some (some (.builtin "object.__class__")))
    (hn : specialIn K (.builtin "object.__class__") "__get__" = some (some (.builtin "getset_descriptor.__get__"))) (htk : takesIn K (.builtin "object.__class__") = some true) (hm : mroIn K D (.type "object") = some true) :
    KitX K (.ref x) (.ref D) (fun h => InstAt h x ox D od) where
  ty := fun _ _ _ I => I.type
  it := fun _ _ X _ => by
    obtain ⟨cdD, hcD, _⟩ := any_some hdct
    unfold clsIn at hcD
    split at hcD
    · rename_i c' d' cd' sl' ho
      intro A' Q' E' s' k q
      unfold isType loadHead
      exact wpAny_bind (wpAny_loadPart (k _ _ (X _ _ ho)) (wpAny_pure q))
    · cases hcD
  ne := fun h tp dd its n sl X htp => by
    obtain ⟨cdD, hcD, _⟩ := any_some hdct
    refine Bool.eq_false_iff.mpr fun q => ?_
    have e : D = tp := Value.ref.inj (beq_iff_eq.mp q)
    subst e
    unfold clsIn at hcD
    split at hcD
    · rename_i c' d' cd' sl' ho
      have z := (X _ _ ho).symm.trans htp
      cases z
    · cases hcD
  ca := fun X I k => kin_classD hga hgt hsub hdct ha hn htk hm X I k
end
end PySem.W
namespace EX2
open PySem PySem.Spec PyProof.Rows L2
/-- an exception that is held as a value -/
def ExAt (H : Hp) (a C : Addr) (fs : List (Str × V)) : Prop := ∃ dx, H a = some (exo a C (some dx)) ∧ H dx = some (exd dx fs)
theorem ExAt.ext {H H' : Hp} {a C : Addr} {fs : List (Str × V)} (h : ExAt H a C fs) (e : Evl.Ex H H') : ExAt H' a C fs := by
  obtain ⟨dx, h1, h2⟩ := h
  exact ⟨dx, e _ _ h1, e _ _ h2⟩
theorem ExAt.inst {X : Cx} {pins : List (Addr × Obj)} {σ : L2.St} {H : Hp} {s : Shared} {a C : Addr} {fs : List (Str × V)} (I : Inv X pins σ H s) (h : ExAt H a C fs) : ∃ ox od, PySem.W.InstAt s.heap a ox C (some od) := by
  obtain ⟨dx, ea, ed⟩ := h
  obtain ⟨t1, ho⟩ := exo_at I.hok ea
  obtain ⟨mA, hns, rel⟩ := exd_at I.hok ed
  obtain ⟨od, hod, hl⟩ := lookIn_ns hns
  exact ⟨{ cls := .ref C, dict := some dx, data := .fields #[.ref t1, .none, .none, .none, .bool false, .none] }, od, ho, rfl, rfl, hod⟩
/-- isinstance(e, c) -/
def rIsX (K : PySem.W.Frag) : List V → Hp → VK → Prop := fun xs H Q => ∃ (a C : Addr) (fs : List (Str × V)) (c : V) (u : Value) (b : Bool), xs = [.ref a, c] ∧ ClsV c u ∧ ExAt H a C fs ∧ ExcC K C ∧ PySem.W.kitOne K (.ref C) u = some b ∧ Q (.bl b) H
/-- isinstance(e, (c1, c2, ..)) -/
def rIsXT (K : PySem.W.Frag) : List V → Hp → VK → Prop := fun xs H Q => ∃ (a C : Addr) (fs : List (Str × V)) (tp : Addr) (cs : List V) (us : List Value) (b : Bool), xs = [.ref a, .ref tp] ∧ H tp = some (.tup cs) ∧ Paired ClsV cs us ∧ ExAt H a C fs ∧ ExcC K C ∧ PySem.W.kitAny K (.ref C) us = some b ∧ Q (.bl b) H
section
variable {X : Cx}
theorem call_isX : CallR X (.builtin "isinstance") (rIsX X.K) := by
  intro pins s σ H xs us Q I r h
  obtain ⟨a, C, fs, c, u, b, rfl, k, ha, T, e, q⟩ := h
  obtain ⟨u1, u2, rfl, r1, r2⟩ := vals2 r
  have e2 := k.eq r2
  subst e2
  obtain rfl : u1 = Value.ref a := r1
  obtain ⟨ox, od, J⟩ := ha.inst I
  exact PySem.W.kia_one (PySem.W.kitx_excD T.hg T.hk T.hs T.hd T.ha T.hn T.ht T.hm) I.kIn J e (fun z => nomatch z) fun tk => ⟨.bl b, H, I.tok tk, rfl, q⟩
theorem call_isXT : CallR X (.builtin "isinstance") (rIsXT X.K) := by
  intro pins s σ H xs us Q I r h
  obtain ⟨a, C, fs, tp, cs, ws, b, rfl, et, k, ha, T, e, q⟩ := h
  obtain ⟨u1, u2, rfl, r1, r2⟩ := vals2 r
  obtain rfl : u1 = Value.ref a := r1
  obtain rfl : u2 = Value.ref tp := r2
  obtain ⟨ox, od, J⟩ := ha.inst I
  obtain ⟨_, its, rv, o, h1, h2, n, h3⟩ := (show ObjOk X.prog X.w H s.heap tp (.tup cs) from I.hok tp _ et)
  have e3 := ClsV.all k rv
  subst e3
  obtain ⟨oc, od2, dt, sl⟩ := o
  simp only at h2 h3
  subst h2 h3
  exact PySem.W.kia_tup (PySem.W.kitx_excD T.hg T.hk T.hs T.hd T.ha T.hn T.ht T.hm) I.kIn J h1 e (fun z => nomatch z) fun tk => ⟨.bl b, H, I.tok tk, rfl, q⟩
end
/-! ### what a value is, told by the heap: data with dicts of ints and texts -/
def kD : Key → PyData
  | .inl i => .int i
  | .inr x => .str x
mutual
inductive Dq (H : Hp) : V → PyData → Prop
  | non : Dq H .non .none
  | bl (b : Bool) : Dq H (.bl b) (.bool b)
  | int (i : Int) : Dq H (.int i) (.int i)
  | str (x : Str) : Dq H (.str x) (.str x)
  | lst {a : Addr} {xs : List V} {ds : List PyData} (e : H a = some (.lst xs)) (h : DqAll H xs ds) : Dq H (.ref a) (.list ds)
  | tup {a : Addr} {xs : List V} {ds : List PyData} (e : H a = some (.tup xs)) (h : DqAll H xs ds) : Dq H (.ref a) (.tuple ds)
  | dk {a : Addr} {kvs : List (Key × V)} {ds : List PyData} (e : H a = some (.dK kvs)) (h : DqAll H (kvs.map (·.2)) ds) : Dq H (.ref a) (.dict ((kvs.map fun p => kD p.1).zip ds))
inductive DqAll (H : Hp) : List V → List PyData → Prop
  | nil : DqAll H [] []
  | cons {x : V} {xs : List V} {d : PyData} {ds : List PyData} (h : Dq H x d) (t : DqAll H xs ds) : DqAll H (x :: xs) (d :: ds)
end
mutual
theorem Dq.ext {H H' : Hp} (e : Evl.Ex H H') : ∀ {x : V} {d : PyData}, Dq H x d → Dq H' x d
  | _, _, .non => .non
  | _, _, .bl b => .bl b
  | _, _, .int i => .int i
  | _, _, .str x => .str x
  | _, _, .lst q h => .lst (e _ _ q) (DqAll.ext e h)
  | _, _, .tup q h => .tup (e _ _ q) (DqAll.ext e h)
  | _, _, .dk q h => .dk (e _ _ q) (DqAll.ext e h)
theorem DqAll.ext {H H' : Hp} (e : Evl.Ex H H') : ∀ {xs : List V} {ds : List PyData}, DqAll H xs ds → DqAll H' xs ds
  | _, _, .nil => .nil
  | _, _, .cons h t => .cons (Dq.ext e h) (DqAll.ext e t)
end
section
variable {P : Program} {w : World} {H : Hp} {h : Heap}
theorem keys_reads {es : List DictEntry} {vs : List (Key × Value)} (p : PySem.Pairs (mixKind P w) es vs) : ReadsAll h (es.map (·.key)) (vs.map fun q => kD q.1) [] := by
  induction p with
  | nil => exact .nil
  | @cons e kv es kvs hk _ _ ih =>
    refine .cons (as := []) (bs := []) ?_ ih
    show Reads h e.key (kD kv.1) []
    rcases keyIs_shape hk with ⟨i, t, e1, e2⟩ | ⟨x, t, e1, e2⟩
    · rw [e2, e1]
      exact .int i t
    · rw [e2, e1]
      exact .str x t
theorem vals_pairs {es : List DictEntry} {vs : List (Key × Value)} (p : PySem.Pairs (mixKind P w) es vs) : es.map (·.val) = vs.map (·.2) := by
  induction p with
  | nil => rfl
  | cons hk hv _ ih => simp [ih, hv]
theorem kv_vals {kvs : List (Key × V)} {vs : List (Key × Value)} (r : KV kvs vs) : L2.Vals (kvs.map (·.2)) (vs.map (·.2)) ∧ (kvs.map fun p => kD p.1) = vs.map fun p => kD p.1 := by
  unfold KV at r
  induction r with
  | nil => exact ⟨.nil, rfl⟩
  | cons h _ ih => exact ⟨.cons h.2 ih.1, by simp only [List.map_cons, ih.2, h.1]⟩
theorem DqAll.length {xs : List V} {ds : List PyData} (q : DqAll H xs ds) : xs.length = ds.length := by
  induction xs generalizing ds with
  | nil => cases q; rfl
  | cons x xs ih =>
    cases q with
    | cons _ t => simp [ih t]
/-- sys.modules is a dict -/
def SysD (h : Heap) : Prop := ∃ o es n, h.get? sysModules = some o ∧ o.data = .dict es n
mutual
theorem Dq.reads (ok : HOk P w H h) (sd : SysD h) : ∀ {x : V} {d : PyData} (u : Value), Dq H x d → L2.RelV x u → ∃ as, Reads h u d as ∧ sysModules ∉ as
  | _, _, u, .non, r => by
    obtain rfl : u = Value.none := r
    exact ⟨_, .none, by simp⟩
  | _, _, u, .bl b, r => by
    obtain rfl : u = Value.bool b := r
    exact ⟨_, .bool b, by simp⟩
  | _, _, u, .int i, r => by
    obtain ⟨t, rfl⟩ := r
    exact ⟨_, .int i t, by simp⟩
  | _, _, u, .str x, r => by
    obtain ⟨t, rfl⟩ := r
    exact ⟨_, .str x t, by simp⟩
  | _, _, u, .lst (a := a) (xs := xs) e q, r => by
    obtain rfl : u = Value.ref a := r
    obtain ⟨hz, its, n, rv, ho⟩ := (show ObjOk P w H h a (.lst xs) from ok a _ e)
    obtain ⟨as, rs, hn⟩ := DqAll.reads ok sd its q rv
    refine ⟨_, .list ho rfl rfl rs, fun z => ?_⟩
    rcases List.mem_cons.mp z with z | z
    · obtain ⟨o, es, m, h1, h2⟩ := sd
      rw [z, ho] at h1
      cases h1
      cases h2
    · exact hn z
  | _, _, u, .tup (a := a) (xs := xs) e q, r => by
    obtain rfl : u = Value.ref a := r
    obtain ⟨hz, its, rv, o, h1, h2, n, h3⟩ := (show ObjOk P w H h a (.tup xs) from ok a _ e)
    obtain ⟨as, rs, hn⟩ := DqAll.reads ok sd its q rv
    exact ⟨_, .tuple h1 h2 h3 rs, hn⟩
  | _, _, u, .dk (a := a) (kvs := kvs) (ds := ds) e q, r => by
    obtain rfl : u = Value.ref a := r
    obtain ⟨hz, hs, vs, rk, o, es, ep, h1, h2, h3, _, h5, _⟩ := (show ObjOk P w H h a (.dK kvs) from ok a _ e)
    obtain ⟨rv, ek⟩ := kv_vals rk
    obtain ⟨as, rs, hn⟩ := DqAll.reads ok sd _ q rv
    have hl : (kvs.map fun p => kD p.1).length = ds.length := by
      have := DqAll.length q
      rw [List.length_map] at this
      rw [List.length_map]
      exact this
    refine ⟨_, .dict h1 h2.1 h3 (as := []) (bs := as) ?_ ?_, fun z => ?_⟩
    · rw [List.map_fst_zip (Nat.le_of_eq hl), ek]
      exact keys_reads h5
    · rw [List.map_snd_zip (Nat.le_of_eq hl.symm), vals_pairs h5]
      exact rs
    · rcases List.mem_cons.mp (show sysModules ∈ a :: as from z) with z | z
      · rw [z] at hs
        simp at hs
      · exact hn z
theorem DqAll.reads (ok : HOk P w H h) (sd : SysD h) : ∀ {xs : List V} {ds : List PyData} (us : List Value), DqAll H xs ds → L2.Vals xs us → ∃ as, ReadsAll h us ds as ∧ sysModules ∉ as
  | _, _, _, .nil, .nil => ⟨_, .nil, by simp⟩
  | _, _, _, .cons (d := d) q t, .cons r rs => by
    obtain ⟨a1, h1, n1⟩ := Dq.reads ok sd _ q r
    obtain ⟨a2, h2, n2⟩ := DqAll.reads ok sd _ t rs
    exact ⟨_, .cons h1 h2, by rw [List.mem_append]; exact fun z => z.elim n1 n2⟩
end
end
end EX2
set_option Elab.async false
set_option linter.all false
set_option maxRecDepth 100000
set_option maxHeartbeats 4000000
namespace EX2
open PySem PySem.Spec PyProof.Rows L2
/-! ### repr of data; the stack holds no repr -/
def rReprD : List V → Hp → VK → Prop := fun xs H Q => ∃ (x : V) (d : PyData), xs = [x] ∧ Dq H x d ∧ d.showable = true ∧ d.shown.length ≤ sizeLine ∧ d.depth ≤ 60 ∧ Q (.str d.shown) H
section
variable {X : Cx}
theorem call_reprD (hg : X.A.guards = some []) (hu : X.A.units + 65 < cLine) (sd : SysD X.base) : CallR X (.builtin "repr") rReprD := by
  intro pins s σ H xs us Q I r h
  obtain ⟨x, d, rfl, hd, hs, hz, hdp, q⟩ := h
  obtain ⟨u, rfl, r1⟩ := vals1 r
  have sd1 : SysD s.heap := by
    obtain ⟨o, es, n, h1, h2⟩ := sd
    exact ⟨o, es, n, I.bk _ _ h1, h2⟩
  cases hd with
  | non =>
    obtain rfl : u = Value.none := r1
    simp only [PyData.shown] at q
    exact PySem.P.repr_of_none ⟨.str _, H, I.tok _, ⟨_, rfl⟩, q⟩
  | bl b =>
    obtain rfl : u = Value.bool b := r1
    simp only [PyData.shown] at q
    exact PySem.P.repr_of_bool ⟨.str _, H, I.tok _, ⟨_, rfl⟩, q⟩
  | int i =>
    obtain ⟨t, rfl⟩ := r1
    simp only [PyData.shown] at q
    simp only [PyData.showable, decide_eq_true_eq] at hs
    exact PySem.P.repr_of_int hs ⟨.str _, H, I.tok _, ⟨_, rfl⟩, q⟩
  | str y =>
    obtain ⟨t, rfl⟩ := r1
    simp only [PyData.shown] at q hz
    exact PySem.P.repr_of_str ⟨.str _, H, I.tok _, ⟨_, rfl⟩, q⟩ hz
  | @lst a xs ds e hq =>
    obtain ⟨as, rd, hn⟩ := Dq.reads I.hok sd1 u (.lst e hq) r1
    obtain rfl : u = Value.ref a := r1
    exact repr_of_reads' rd hs (fun _ => hn) hg (by omega) (fun _ _ e => e) (fun h' u tk k => ⟨.str _, H, I.kept (t' := tk) k, ⟨_, rfl⟩, q⟩) hz
  | @tup a xs ds e hq =>
    obtain ⟨as, rd, hn⟩ := Dq.reads I.hok sd1 u (.tup e hq) r1
    obtain rfl : u = Value.ref a := r1
    exact repr_of_reads' rd hs (fun _ => hn) hg (by omega) (fun _ _ e => e) (fun h' u tk k => ⟨.str _, H, I.kept (t' := tk) k, ⟨_, rfl⟩, q⟩) hz
  | @dk a kvs ds e hq =>
    obtain ⟨as, rd, hn⟩ := Dq.reads I.hok sd1 u (.dk e hq) r1
    obtain rfl : u = Value.ref a := r1
    exact repr_of_reads' rd hs (fun _ => hn) hg (by omega) (fun _ _ e => e) (fun h' u tk k => ⟨.str _, H, I.kept (t' := tk) k, ⟨_, rfl⟩, q⟩) hz
end
/-! ### promises where no repr runs around -/
structure FnOkG (P : Program) (w : World) (K : PySem.W.Frag) (mg : Str → Option Value) (base : Heap) (k : Nat) (f : Addr) (fd : FuncData) (ps : List Str) (sp : Sp) : Prop where
  len : ∀ vs H Q E, sp vs H Q E → vs.length = ps.length
  run : ∀ (A : Around) (outer : List Env) (s : Shared) (H : Hp) (args : Args) (us : List Value) (vs : List V) (Q : VK) (E : XK), A.guards = some [] → Room k A → Env0 P w K mg base A outer s H → BindsTo s fd args (ps.zip us) → Vals vs us → sp vs H Q E →
    codeAny (model P w) A (.call (.ref f) args) (CR CX0 outer P w H s Q E) s
theorem guards_deeper {A : Around} {env : Env} : (A.deeper env).guards = A.guards := by
  obtain ⟨hd, d, fr, gs, u⟩ := A
  cases gs <;> rfl
section
variable {P : Program} {w : World} {K : PySem.W.Frag} {mg : Str → Option Value} {base : Heap}
/-- THE RULE for a def (its body may ask for repr) -/
theorem okG {x qual : Str} {params : Arguments} {body : List Stmt} {scope : Scope} {dvs : List V} {kws : List (Str × V)} {f : Addr} {fd : FuncData} {N ps : List Str} {k : Nat} {sp : Sp} (F : FunD K x qual params body scope dvs kws f fd) (S : FnScope N ps scope) (len : ∀ vs H Q E, sp vs H Q E → vs.length = ps.length)
    (hbody : ∀ (cdv : Value) (A : Around) (outer : List Env) (s : Shared) (H : Hp) (vs : List V) (Q : VK) (E : XK), A.guards = some [] → Room k (A.deeper (envOfC qual scope s.heap.objs.size f cdv)) → sp vs H Q E →
      ∃ t, PSs (cxOf CX0 P w K mg base N qual scope f cdv A outer s H E) body t ∧ t { nx := fun _ H' => Q .non H', rt := Q } (start N vs) H) : FnOkG P w K mg base (k + 1) f fd ps sp := by
  refine ⟨len, fun A outer s H args us vs Q E hg hr e0 hb r hsp => ?_⟩
  obtain ⟨oc, od, dV, kV, doc, pm, an, cdv, ct, osl, rfl, lk, hcd, _, _⟩ := F.ex
  have hl := len _ _ _ _ hsp
  have KX : K.In s.heap := e0.mod.kin.keeps fun b o e => (e0.bs b o e).1
  have lim : s.heap.NoLimit := e0.mod.nolimit.keeps fun b o e => (e0.bs b o e).1
  have hkind : ∀ y ∈ ps.zip us, scope.names.lookup y.1 = some .local ∨ (scope.names.lookup y.1 = some .cell ∧ ((cellsFrom (s.heap.objs.size + 1) scope.names []).lookup y.1).isSome = true) := fun ⟨n, v⟩ hy => by
    rcases S.par n (List.of_mem_zip hy).1 with q | q
    · exact .inl q
    · exact .inr ⟨q, PySem.W.cellsFrom_some _ _ _ (.inl q)⟩
  refine codeAny_call_function hr.depth (KX _ _ lk) rfl S.co S.gen rfl (PySem.W.codeRec_of KX hcd) (hb _ _ _ _ ?_)
  refine wpAny_newFunctionEnv_cells S.kind hkind fun env he s1 x => ?_
  subst he
  refine ⟨lim.keeps x.toInCall.keep, codeAny_func ?_⟩
  obtain ⟨t, ht, hq⟩ := hbody cdv A outer s H vs Q E hg (hr.deeper _) hsp
  have I : Inv (cxOf CX0 P w K mg base N qual scope f cdv A outer s H E) [] (start N vs) H s1 := inv_start S hr.hd e0 hl r x
  refine wpAny_mono (ht.run [] s1 (start N vs) H _ I hq) (fun fl s' hs => ?_) fun e s' hs => hs
  have fin : ∀ {σ' : L2.St} {H' : Hp} {v : V} {u : Value}, Inv (cxOf CX0 P w K mg base N qual scope f cdv A outer s H E) [] σ' H' s' → RelV v u → Q v H' → CE outer P w H s Q u s' :=
    fun {σ' H' v u} J rv q => ⟨v, H', J.os, J.bare, J.base, J.hok, rv, q⟩
  cases fl with
  | ret u =>
    obtain ⟨v, σ', H', J, rv, q⟩ := hs
    exact fin J rv q
  | next =>
    obtain ⟨σ', H', J, q⟩ := hs
    exact fin (v := V.non) (u := Value.none) J rfl q
  | brk =>
    obtain ⟨_, _, _, q⟩ := hs
    exact False.elim q
  | cont =>
    obtain ⟨_, _, _, q⟩ := hs
    exact False.elim q
end
section
variable {X : Cx} {k : Nat} {f : Addr} {fd : FuncData} {ps : List Str} {sp : Sp} {x : Str} {p pos : Pos} {e : Expr} {es : List Expr} {t : TA}
theorem pe_callG (F : FnOkG X.prog X.w X.K X.mg X.base k f fd ps sp) (hG : X.A.guards = some []) (hr : Room k X.A) (hg : Gl X x) (hm : X.mg x = some (.ref f)) (hk : PySem.W.keepIn X.K (.ref f) = true) (hb : Binds X.K fd ps [])
    (ha : PA X (e :: es) t) (hdb : (x == ("__debug__" : Str)) = false := by decide) (he : starEach (e :: es) X.env = (false, eval e X.env) :: starEach es X.env := by rfl) (hpl : (backTo pos (starEach es X.env)).any (·.1) = false := by rfl) :
    PE X (.Call (.Name x p) (e :: es) [] pos) (tCall sp [] E0 t) := by
  refine ⟨fun pins s σ H Q I h => ?_⟩
  refine wpAny_Call_Name_kw (ld_glob I hg hm ?_ hdb)
  refine PySem.W.callWith_K (h₀ := X.base) I.ok.mod.kin hk (thn (ha.run pos pins s σ H _ I h) fun us s1 ⟨vs, H1, I1, r, q⟩ => ⟨I1.kIn, ?_⟩) he hpl
  have q0 : sp (vs ++ []) H1 Q E0 := q
  rw [List.append_nil] at q0
  have hl : us.length = ps.length := by rw [← r.length]; exact F.len _ _ _ _ q0
  have hbt := hb s1 us I1.kIn (by rw [List.append_nil]; exact hl)
  rw [List.append_nil] at hbt
  refine wpAny_call (codeAny_mono (F.run X.A X.stack s1 H1 ⟨us, []⟩ us vs Q E0 hG hr I1.env0 hbt r q0) fun r s' hq => ?_)
  cases r with
  | error e => exact False.elim hq
  | ok fl =>
    cases fl with
    | ret u => exact I1.after hq
    | next => exact False.elim hq
    | brk => exact False.elim hq
    | cont => exact False.elim hq
end
section
variable {P : Program} {w : World} {K : PySem.W.Frag} {mg mb : Str → Option Value} {k : Nat} {fa a : Addr} {fd : FuncData} {x : Str} {sp : Sp} {s₁ : Shared} {vs : List Value} {ns : List Int}
/-- the law called, from an abstract heap that tracks nothing but the script -/
theorem law_coreG (KX : K.In s₁.heap) (hns : s₁.heap.Ns mainGlobals mg) (hb : s₁.heap.Ns builtinsNs mb) (hbb : ∀ x : Str, x ≠ "__name__" → mb x = bootBuiltins x) (hlim : s₁.heap.NoLimit) (hg : s₁.gens = #[])
    (ha : s₁.heap.get? a = some { cls := .type "list", data := .seq vs.toArray }) (hr : Room k callerA)
    (F : ∀ base : Heap, K.In base → base.Ns mainGlobals mg → FnOkG P w K mg base k fa fd [x] sp) (hbind : ∀ (s : Shared) (u : Value), BindsTo s fd ⟨[u], []⟩ [(x, u)])
    (hsp : ∀ H : Hp, Only H → SqL K H a (ns.map V.int) → sp [.ref a] H (fun v _ => v = .bl true) fun _ _ _ => False)
    (H : Hp) (hO : Only H) (hS : SqL K H a (ns.map V.int)) (hok : HOk P w H s₁.heap) (hA : ∀ b, H b ≠ none → b = a) (hK : H a ≠ none → K.lookup a = none) :
    codeAny (model P w) callerA (.call (.ref fa) ⟨[.ref a], []⟩) (fun r s' => r = .ok (.ret (.bool true)) ∧ OldK s₁.heap s'.heap ∧ s'.os = s₁.os ∧ AllBare s'.gens) s₁ := by
  have only : ∀ {b : Addr}, (H b = none → False) → b = a := fun {b} z => hA b fun q => z q
  have free : ∀ {b : Addr} {o : Obj}, s₁.heap.get? b = some o → (∀ vs n, o.data ≠ .seq vs n) → H b = none := fun {b o} e d => Classical.byContradiction fun z => by
    have eb := only (b := b) z
    rw [eb, ha] at e
    cases e
    exact d _ _ rfl
  have names : ∀ {b : Addr} {m : Str → Option Value}, s₁.heap.Ns b m → (hidT s₁.heap H).Ns b m := fun {b m} ⟨o, es, ep, e, d, r⟩ => ⟨o, es, ep, hidT_get e (free e fun vs n q => by rw [d] at q; cases q), d, r⟩
  have kin : K.In (hidT s₁.heap H) := fun b o e => hidT_get (KX b o e) (Classical.byContradiction fun z => by
    have eb := only (b := b) z
    rw [eb] at e z
    rw [hK z] at e
    cases e)
  have M : Mod K mg (hidT s₁.heap H) := ⟨kin, names hns, ⟨mb, names hb, hbb⟩, let ⟨mc, h1, h2⟩ := hlim; ⟨mc, names h1, h2⟩⟩
  have e0 : Env0 P w K mg (hidT s₁.heap H) callerA [] s₁ H := ⟨rfl, M, fun b o e => of_hidT e, Nat.le_of_eq (hidT_size _ _), trivial, fun b hb => absurd (show b ∈ ([] : List Addr) from hb) (by simp), hok, .of_eq hg⟩
  refine codeAny_mono ((F _ kin (names hns)).run callerA [] s₁ H ⟨[.ref a], []⟩ [.ref a] [.ref a] _ _ rfl hr e0 (hbind s₁ (.ref a)) (.cons rfl .nil) (hsp H hO hS)) fun r s' h => ?_
  match r, h with
  | .error e, h => exact False.elim h
  | .ok (.ret u), h =>
    obtain ⟨v, H', os, bare, un, hok', r', q⟩ := h
    obtain rfl : v = .bl true := q
    obtain rfl : u = Value.bool true := r'
    refine ⟨rfl, OldK.of_keep fun b o e => ?_, os, bare⟩
    rcases hO b with z | ⟨ob, xs, z⟩
    · exact un.keep b o e z (fun z => absurd (show b ∈ ([] : List Addr) from z) (by simp)) (by simp)
    · obtain ⟨e1, _⟩ := hok b _ z
      obtain ⟨e2, _⟩ := hok' b _ (un.frzs b ob _ z)
      rw [e] at e1
      cases e1
      exact e2
theorem law_callG (KX : K.In s₁.heap) (hns : s₁.heap.Ns mainGlobals mg) (hb : s₁.heap.Ns builtinsNs mb) (hbb : ∀ x : Str, x ≠ "__name__" → mb x = bootBuiltins x) (hlim : s₁.heap.NoLimit) (hg : s₁.gens = #[])
    (ha : s₁.heap.get? a = some { cls := .type "list", data := .seq vs.toArray }) (hi : IntsAre vs ns) (hl : ns.length ≤ sizeLine) (hr : Room k callerA)
    (F : ∀ base : Heap, K.In base → base.Ns mainGlobals mg → FnOkG P w K mg base k fa fd [x] sp) (hbind : ∀ (s : Shared) (u : Value), BindsTo s fd ⟨[u], []⟩ [(x, u)])
    (hsp : ∀ H : Hp, Only H → SqL K H a (ns.map V.int) → sp [.ref a] H (fun v _ => v = .bl true) fun _ _ _ => False) :
    codeAny (model P w) callerA (.call (.ref fa) ⟨[.ref a], []⟩) (fun r s' => r = .ok (.ret (.bool true)) ∧ OldK s₁.heap s'.heap ∧ s'.os = s₁.os ∧ AllBare s'.gens) s₁ := by
  have rv := vals_ints hi
  cases hk : K.lookup a with
  | some o =>
    have e := KX a o hk
    rw [ha] at e
    cases e
    exact law_coreG KX hns hb hbb hlim hg ha hr F hbind hsp (fun _ => none) (fun _ => .inl rfl) (.inr ⟨_, vs.toArray, _, hk, rfl, rfl, rfl, by rw [List.size_toArray, hi.length]; exact hl, by simpa using rv⟩) (fun b u z => nomatch (show (none : Option HO) = some u from z)) (fun b z => absurd rfl z) fun z => absurd rfl z
  | none =>
    refine law_coreG KX hns hb hbb hlim hg ha hr F hbind hsp (fun b => if b = a then some (.frz { cls := .type "list", data := .seq vs.toArray } (.lst (ns.map V.int))) else none) (fun b => ?_) (.inl (.inr ⟨{ cls := .type "list", data := .seq vs.toArray }, if_pos rfl⟩)) (fun b u z => ?_) (fun b z => ?_) fun _ => hk
    · by_cases hb : b = a
      · exact .inr ⟨_, _, if_pos hb⟩
      · exact .inl (if_neg hb)
    · by_cases hb : b = a
      · have z' := (if_pos hb).symm.trans z
        cases z'
        rw [hb]
        exact ⟨ha, by rw [List.length_map]; exact hl, vs, _, rv, ha⟩
      · have z' := (if_neg hb).symm.trans z
        cases z'
    · by_cases hb : b = a
      · exact hb
      · exact absurd (if_neg hb) z
end
/-- the end of a law whose promise is such -/
theorem walk_ofG {l : PySem.W.OpenLaw} {n k : Nat} {q : Program} {loose : List Str} {XP : (Str → Option Value) → Heap → Prop} {YP : World → Heap → Prop} {d : DefRec} {x : Str}
    (hn : l.most = some n) (hn2 : n ≤ sizeLine) (hdf : d.params.defaults = []) (hr : Room k callerA)
    (F : ∀ (w : World) (mg : Str → Option Value) (fa : Addr) (h : Heap), YP w h → h.Ns mainGlobals mg → mg d.name = some (.ref fa) →
      ∃ (K : PySem.W.Frag) (fd : FuncData) (sp : Sp), K.In h ∧ (∀ (s : Shared) (u : Value), BindsTo s fd ⟨[u], []⟩ [(x, u)]) ∧
        (∀ (H : Hp) (a : Addr) (ns : List Int), ns.length ≤ n → Only H → SqL K H a (ns.map V.int) → sp [.ref a] H (fun v _ => v = .bl true) fun _ _ _ => False) ∧
        ∀ base : Heap, K.In base → base.Ns mainGlobals mg → FnOkG l.prog w K mg base k fa fd [x] sp) :
    PySem.W.WalkO q loose XP YP l.row.toRowW d [] (fun f vs => PySem.call f vs) := by
  refine Att.attach_call hn hdf fun w s₀ s₁ mg mb fa o pm cd doc a vs ns G Y ho hd hcd hmg hobj hints hlen hg => ?_
  obtain ⟨K, fd, sp, KX, hb, hsp, hF⟩ := F w mg fa _ Y G.T.g hmg
  exact law_callG KX G.T.g G.T.b G.T.builtins G.T.nolimit hg hobj hints (Nat.le_trans hlen hn2) hr hF hb (fun H hO hS => hsp H a ns hlen hO hS)
end EX2
set_option Elab.async false
set_option linter.all false
set_option maxRecDepth 100000
set_option maxHeartbeats 4000000
namespace EX2
open PySem PySem.Spec PyProof.Rows L2
/-! ### the head's facts -/
abbrev FnZ : Type := Option (Str × Str × Arguments × FuncBody × Scope × Addr × List Str × Addr)
def ini (K : PySem.W.Frag) (C : Str) : Addr := He.ma K (He.ga K C) "__init__"
def suW (K : PySem.W.Frag) (C : Str) : FnZ := match K.lookup (ini K C) with
  | some ⟨_, _, .func fd, _⟩ => some (fd.name, fd.qualname, fd.params, fd.body, fd.scope, fd.globals, fd.closure.map (·.1), fd.builtins)
  | _ => none
/-- an __init__ that says super().__init__: its class's name, its text, its fields -/
structure SuD where
  cls : Str
  qual : Str
  st : Stmt
  flds : List Str
def SuD.val (d : SuD) : FnZ := some ("__init__", d.qual, defArgs d.st, .stmts (defBody d.st), defScope d.st, mainGlobals, ["__class__"], builtinsNs)
def noneB : Value → Bool
  | .none => true
  | _ => false
theorem noneB_ok {v : Value} (h : noneB v = true) : v = .none := by
  cases v with
  | none => rfl
  | _ => cases h
def cellB (K : PySem.W.Frag) (D : Addr) (cl : List (Str × Addr)) : Bool := match cl with
  | [(_, cc)] => (match K.lookup cc with
    | some ⟨_, _, .cell (some (.ref D')), _⟩ => decide (D' = D)
    | _ => false)
  | _ => false
def fileB (K : PySem.W.Frag) (file : Str) (cd : Value) : Bool := match cd with
  | .ref c => (match K.lookup c with
    | some ⟨_, _, .fields vs, _⟩ => (match vs[2]? with
      | some (Value.str f _) => file == f
      | _ => false)
    | _ => false)
  | _ => false
def SuD.ok (file : Str) (K : PySem.W.Frag) (d : SuD) : Bool := match K.lookup (ini K d.cls) with
  | some ⟨_, _, .func fd, _⟩ => PySem.W.codeIn K fd.code d.qual && (noneB fd.defaults && (noneB fd.kwdefaults && (fd.annotations.isNone && (cellB K (He.ga K d.cls) fd.closure && fileB K file fd.code))))
  | _ => false
def clsB (K : PySem.W.Frag) (C B f : Addr) (flds : List Str) : Bool :=
  PySem.W.excInitIn K C bmE "Exception.__new__" && (PySem.W.excOver K C bmE && (PySem.W.hasDictIn K C && (He.eqO (PySem.W.findIn K (.ref C) "__setattr__") (some (some (.builtin "object.__setattr__"))) &&
  (decide (PySem.W.typeIn K (.ref C) = some (.type "type")) && (PySem.W.keepIn K (.ref C) &&
  (He.eqO (PySem.W.findIn K (.ref C) "__getattribute__") (some (some (.builtin "BaseException.__getattribute__"))) && (He.eqO (PySem.W.findIn K (.ref C) "__getattr__") (some none) &&
  (He.eqO (PySem.W.findIn K (.ref C) "__class__") (some (some (.builtin "object.__class__"))) && (He.eqO (PySem.W.findIn K (.ref C) "__init__") (some (some (.ref f))) && (decide (PySem.W.typeIn K (.ref f) = some (.type "function")) &&
  (He.eqO (PySem.W.ks_superIn K C C "__init__") (some (some (.builtin "Exception.__init__"))) && ((PySem.W.clsIn K C).any (fun cd => decide (cd.mro = .ref C :: .ref B :: bmE)) && flds.all fun x => He.eqO (PySem.W.findIn K (.ref C) x) (some none)))))))))))))
/-- the same of all classes: two facts of built-in things -/
def bltB (K : PySem.W.Frag) : Bool := He.eqO (PySem.W.specialIn K (.builtin "object.__class__") "__get__") (some (some (.builtin "getset_descriptor.__get__"))) && (decide (PySem.W.takesIn K (.builtin "object.__class__") = some true) &&
  (He.eqO (PySem.W.nsIn K cStatics "thirdparty.any") (some none) && He.dictB K sysModules))
def sudB (file : Str) (K : PySem.W.Frag) (B : Str) (xs : List SuD) : Bool := bltB K && (xs.all fun d => clsB K (He.ga K d.cls) (He.ga K B) (ini K d.cls) d.flds && d.ok file K)
/-- what is told of a class -/
structure ClsG (K : PySem.W.Frag) (C B f : Addr) (flds : List Str) : Prop where
  t : ExK K C
  x : XfC K C
  c : ExcC K C
  at_ : PySem.W.findIn K (.ref C) "__init__" = some (some (.ref f))
  ty : PySem.W.typeIn K (.ref f) = some (.type "function")
  su : PySem.W.ks_superIn K C C "__init__" = some (some (.builtin "Exception.__init__"))
  mro : ∃ cd, PySem.W.clsIn K C = some cd ∧ cd.mro = .ref C :: .ref B :: bmE
  no : ∀ x ∈ flds, PySem.W.findIn K (.ref C) x = some none
theorem mro_of {K : PySem.W.Frag} {C B : Addr} (h : ∃ cd, PySem.W.clsIn K C = some cd ∧ cd.mro = .ref C :: .ref B :: bmE) (b : Value) : PySem.W.mroIn K C b = some ((Value.ref C :: .ref B :: bmE).contains b) := by
  obtain ⟨cd, h1, h2⟩ := h
  unfold PySem.W.mroIn
  rw [h1, Option.bind_some, h2, if_neg (by simp)]
theorem has_ty {C B : Addr} (T : String) (h : bmE.contains (.type T) = true) : (Value.ref C :: .ref B :: bmE).contains (.type T) = true := by
  rw [List.contains_cons, List.contains_cons, h, Bool.or_true, Bool.or_true]
theorem clsB_ok {K : PySem.W.Frag} {C B f : Addr} {flds : List Str} (hb : bltB K = true) (h : clsB K C B f flds = true) : ClsG K C B f flds := by
  unfold clsB at h
  simp only [Bool.and_eq_true] at h
  obtain ⟨h1, h2, h3, h4, h5, h6, h7, h8, h9, h10, h11, h12, h13, h14⟩ := h
  unfold bltB at hb
  simp only [Bool.and_eq_true] at hb
  obtain ⟨b1, b2, b3, b4⟩ := hb
  have hm : ∃ cd, PySem.W.clsIn K C = some cd ∧ cd.mro = .ref C :: .ref B :: bmE := by
    obtain ⟨cd, e1, e2⟩ := PySem.W.any_some h13
    exact ⟨cd, e1, of_decide_eq_true e2⟩
  have s1 : PySem.W.subIn K (.ref C) (.type "BaseException") = some true := (mro_of hm _).trans (congrArg some (has_ty _ (by decide +kernel)))
  have s2 : PySem.W.subIn K (.ref C) (.type "Exception") = some true := (mro_of hm _).trans (congrArg some (has_ty _ (by decide +kernel)))
  have s3 : PySem.W.mroIn K C (.type "object") = some true := (mro_of hm _).trans (congrArg some (has_ty _ (by decide +kernel)))
  refine ⟨⟨h1, h2, h3, He.eqO_ok h4, s1, s2, of_decide_eq_true h5, h6⟩, ⟨He.eqO_ok h7, He.eqO_ok h8, s1, h3⟩, ⟨He.eqO_ok h7, He.eqO_ok h8, s1, h3, He.eqO_ok h9, He.eqO_ok b1, of_decide_eq_true b2, s3⟩, He.eqO_ok h10, of_decide_eq_true h11, He.eqO_ok h12, hm, fun x hx => He.eqO_ok (List.all_eq_true.mp h14 x hx)⟩
theorem ClsG.self {K : PySem.W.Frag} {C B f : Addr} {flds : List Str} (g : ClsG K C B f flds) : PySem.W.mroIn K C (.ref C) = some true := (mro_of g.mro _).trans (by simp)
/-- isinstance: another such class, the base, a built-in type that is not above -/
theorem ClsG.kit {K : PySem.W.Frag} {C B f D f' : Addr} {flds flds' : List Str} (g : ClsG K C B f flds) (g' : ClsG K D B f' flds') (h : D ≠ B) : PySem.W.kitOne K (.ref C) (.ref D) = some (decide (C = D)) := by
  unfold PySem.W.kitOne
  by_cases e : C = D
  · subst e
    rw [if_pos (by simp), decide_eq_true rfl]
  · have e' : (Value.ref C == Value.ref D) = false := by simp [e]
    rw [e', if_neg (by simp), decide_eq_false e]
    obtain ⟨cd, h1, h2⟩ := g'.mro
    show (if ((PySem.W.clsIn K D).isSome && PySem.W.typeIn K (.ref D) == some (.type "type")) = true then PySem.W.subIn K (.ref C) (.ref D) else none) = some false
    rw [h1, g'.t.tyC, if_pos (by rfl)]
    refine (mro_of g.mro _).trans ?_
    simp [Ne.symm e, h]
theorem ClsG.kitB {K : PySem.W.Frag} {C B f : Addr} {flds : List Str} (g : ClsG K C B f flds) (hB : ((PySem.W.clsIn K B).isSome && PySem.W.typeIn K (.ref B) == some (.type "type")) = true) : PySem.W.kitOne K (.ref C) (.ref B) = some true := by
  unfold PySem.W.kitOne
  by_cases e : C = B
  · subst e
    rw [if_pos (by simp)]
  · have e' : (Value.ref C == Value.ref B) = false := by simp [e]
    rw [e', if_neg (by simp)]
    show (if ((PySem.W.clsIn K B).isSome && PySem.W.typeIn K (.ref B) == some (.type "type")) = true then PySem.W.subIn K (.ref C) (.ref B) else none) = some true
    rw [if_pos hB]
    exact (mro_of g.mro _).trans (by simp)
theorem ClsG.kitT {K : PySem.W.Frag} {C B f : Addr} {flds : List Str} (g : ClsG K C B f flds) {T : String} {b : Bool} (hm : PySem.W.kitMeta T = true) (h : bmE.contains (.type T) = b) : PySem.W.kitOne K (.ref C) (.type T) = some b := by
  unfold PySem.W.kitOne
  have e' : (Value.ref C == Value.type T) = false := rfl
  rw [e', if_neg (by simp)]
  show (if PySem.W.kitMeta T = true then PySem.W.subIn K (.ref C) (.type T) else none) = some b
  rw [if_pos hm]
  refine (mro_of g.mro _).trans ?_
  rw [List.contains_cons, List.contains_cons, h]
  rfl
theorem suF_of {P : Program} {K : PySem.W.Frag} {d : SuD} (g : ClsG K (He.ga K d.cls) B (ini K d.cls) d.flds) (e : suW K d.cls = d.val) (c : d.ok P.main.file K = true) : ∃ fd, SuF P K d.qual d.st (He.ga K d.cls) (ini K d.cls) fd := by
  unfold suW at e
  unfold SuD.ok at c
  cases q : K.lookup (ini K d.cls) with
  | none =>
    rw [q] at c
    cases c
  | some o =>
    obtain ⟨oc, od, dt, osl⟩ := o
    rw [q] at c e
    cases dt with
    | func fd =>
      obtain ⟨n1, n2, n3, n4, n5, n6, n7, n8, n9, n10, n11, n12, n13, n14, n15⟩ := fd
      have e2 : (some (n1, n2, n3, n4, n5, n6, n7.map (·.1), n15) : FnZ) = some ((("__init__" : Str), d.qual, defArgs d.st, FuncBody.stmts (defBody d.st), defScope d.st, mainGlobals, [("__class__" : Str)], builtinsNs) : Str × Str × Arguments × FuncBody × Scope × Addr × List Str × Addr) := e
      simp only [Option.some.injEq, Prod.mk.injEq] at e2
      obtain ⟨h1, h2, h3, h4, h5, h6, h7, h8⟩ := e2
      subst h1 h2 h3 h4 h5 h6 h8
      have c2 : (PySem.W.codeIn K n13 d.qual && (noneB n8 && (noneB n9 && (n12.isNone && (cellB K (He.ga K d.cls) n7 && fileB K P.main.file n13))))) = true := c
      simp only [Bool.and_eq_true] at c2
      obtain ⟨k1, k2, k3, k4, k5, k6⟩ := c2
      obtain rfl := noneB_ok k2
      obtain rfl := noneB_ok k3
      obtain rfl : n12 = none := by
        cases n12 with
        | none => rfl
        | some a => cases k4
      obtain ⟨cd, rfl⟩ := He.codeIn_ref k1
      match n7, h7, k5 with
      | [(y, cc)], h7, k5 =>
        obtain rfl : y = ("__class__" : Str) := List.head_eq_of_cons_eq h7
        unfold cellB at k5
        dsimp only at k5
        unfold fileB at k6
        dsimp only at k6
        split at k5
        · rename_i kc kd D' ks lcc
          split at k6
          · rename_i fc fdd vs fs lc
            split at k6
            · rename_i ff ft hv
              have hD : D' = He.ga K d.cls := of_decide_eq_true k5
              subst hD
              exact ⟨_, ⟨oc, od, osl, n10, n11, n14, cc, cd, _, _, vs, ff, ft, rfl, q, k1, lcc, rfl, lc, rfl, hv, k6⟩, g.at_, g.ty⟩
            · cases k6
          · cases k6
        · cases k5
    | _ => cases c
/-! ### the Hook -/
abbrev AlY : Type := (He.AlT × Bool) × List FnZ
def frY (g : Addr → Option Obj) (n : Nat) : PySem.W.Frag := He.frT g (sysModules :: cStatics :: He.asD g n)
def obsY (n : Nat) (fa : List He.Fa) (fn : List He.DefD) (xs : List SuD) (ex : PySem.W.Frag → Bool) (g : Addr → Option Obj) : AlY := ((He.obsT fa fn [] (frY g n), ex (frY g n)), xs.map fun d => suW (frY g n) d.cls)
def valY (fn : List He.DefD) (xs : List SuD) (w : World) : AlY := ((He.valT fn [] w, true), xs.map SuD.val)
structure SaysY (fa : List He.Fa) (fn : List He.DefD) (xs : List SuD) (ex : PySem.W.Frag → Bool) (w : World) (K : PySem.W.Frag) : Prop where
  t : He.SaysT fa fn [] w K
  more : ex K = true
  sup : xs.map (fun d => suW K d.cls) = xs.map SuD.val
def hookY (n : Nat) (fa : List He.Fa) (fn : List He.DefD) (xs : List SuD) (ex : PySem.W.Frag → Bool) : PySem.W.Hook where
  α := AlY
  obs := fun s => obsY n fa fn xs ex s.heap.get?
  val := fun w => valY fn xs w
  says := fun w h => ∃ K : PySem.W.Frag, K.In h ∧ SaysY fa fn xs ex w K
  of := fun _ _ e => ⟨_, He.frT_in, congrArg (fun z : AlY => z.1.1) e, congrArg (fun z : AlY => z.1.2) e, congrArg (fun z : AlY => z.2) e⟩
  keeps := fun _ _ _ ⟨K, hK, c⟩ k => ⟨K, PySem.W.Frag.In.keeps hK k, c⟩
theorem obsY_eq {n : Nat} {fa : List He.Fa} {fn : List He.DefD} {xs : List SuD} {ex : PySem.W.Frag → Bool} {g : Addr → Option Obj} {s : Shared} (h : ∀ a, g a = s.heap.get? a) : obsY n fa fn xs ex g = (hookY n fa fn xs ex).obs s := by
  have e : g = s.heap.get? := funext h
  rw [e] <;> rfl
/-- all that is told of the i-th such class -/
theorem sud_at {P : Program} {K : PySem.W.Frag} {B : Str} {xs : List SuD} (hb : sudB P.main.file K B xs = true) (hs : xs.map (fun d => suW K d.cls) = xs.map SuD.val) (i : Nat) {d : SuD} (h : xs[i]? = some d := by rfl) :
    ClsG K (He.ga K d.cls) (He.ga K B) (ini K d.cls) d.flds ∧ ∃ fd, SuF P K d.qual d.st (He.ga K d.cls) (ini K d.cls) fd := by
  unfold sudB at hb
  rw [Bool.and_eq_true] at hb
  have h1 := List.all_eq_true.mp hb.2 d (List.mem_of_getElem? h)
  rw [Bool.and_eq_true] at h1
  have g := clsB_ok hb.1 h1.1
  refine ⟨g, suF_of g ?_ h1.2⟩
  have e2 : (xs.map fun d => suW K d.cls)[i]? = (xs.map SuD.val)[i]? := by rw [hs]
  rw [List.getElem?_map, List.getElem?_map, h] at e2
  exact Option.some.inj e2
theorem sysD_of {K : PySem.W.Frag} {h : Heap} (hb : bltB K = true) (X : K.In h) : SysD h := by
  unfold bltB at hb
  simp only [Bool.and_eq_true] at hb
  obtain ⟨es, n, sl, e⟩ := He.dictB_ok hb.2.2.2
  exact ⟨_, es, n, X _ _ e, rfl⟩
end EX2
set_option Elab.async false
set_option linter.all false
set_option maxRecDepth 100000
set_option maxHeartbeats 4000000
/-! the head's facts, with tables and defs at any path (property getters) -/
namespace EX2
open PySem PySem.Spec PyProof.Rows L2
/-- a def without defaults and cells, found by a path -/
structure PD where
  at_ : PySem.W.Frag → Addr
  name : Str
  qual : Str
  st : Stmt
def pdW (K : PySem.W.Frag) (d : PD) : He.FnW := match K.lookup (d.at_ K) with
  | some ⟨_, _, .func fd, _⟩ => some (fd.name, fd.qualname, fd.params, fd.body, fd.scope, fd.globals, fd.closure, fd.builtins)
  | _ => none
def PD.val (d : PD) : He.FnW := some (d.name, d.qual, defArgs d.st, .stmts (defBody d.st), defScope d.st, mainGlobals, [], builtinsNs)
def PD.ok (K : PySem.W.Frag) (d : PD) : Bool := PySem.W.keepIn K (.ref (d.at_ K)) && (match K.lookup (d.at_ K) with
  | some ⟨_, _, .func fd, _⟩ => PySem.W.codeIn K fd.code d.qual && (noneB fd.defaults && noneB fd.kwdefaults)
  | _ => false)
theorem PD.funD {K : PySem.W.Frag} {d : PD} (e : pdW K d = d.val) (c : d.ok K = true) : ∃ fd, FunD K d.name d.qual (defArgs d.st) (defBody d.st) (defScope d.st) [] [] (d.at_ K) fd := by
  unfold PD.ok at c
  rw [Bool.and_eq_true] at c
  obtain ⟨kp, c2⟩ := c
  unfold pdW at e
  cases q : K.lookup (d.at_ K) with
  | none =>
    rw [q] at c2
    cases c2
  | some o =>
    obtain ⟨oc, od, dt, osl⟩ := o
    rw [q] at c2 e
    cases dt with
    | func fd =>
      obtain ⟨n1, n2, n3, n4, n5, n6, n7, n8, n9, n10, n11, n12, n13, n14, n15⟩ := fd
      have e2 : (some (n1, n2, n3, n4, n5, n6, n7, n15) : He.FnW) = some (d.name, d.qual, defArgs d.st, .stmts (defBody d.st), defScope d.st, mainGlobals, [], builtinsNs) := e
      simp only [Option.some.injEq, Prod.mk.injEq] at e2
      obtain ⟨h1, h2, h3, h4, h5, h6, h7, h8⟩ := e2
      subst h1 h2 h3 h4 h5 h6 h7 h8
      have c3 : (PySem.W.codeIn K n13 d.qual && (noneB n8 && noneB n9)) = true := c2
      simp only [Bool.and_eq_true] at c3
      obtain ⟨k1, k2, k3⟩ := c3
      obtain rfl := noneB_ok k2
      exact ⟨_, ⟨oc, od, .none, n9, n10, n11, n12, n13, n14, osl, rfl, q, k1, .inl ⟨rfl, rfl⟩, .inl rfl⟩, kp⟩
    | _ => cases c2
/-- a property's object, its getter -/
def prA (K : PySem.W.Frag) (C f : Str) : Addr := He.ma K (He.ga K C) f
def prG (C f : Str) (K : PySem.W.Frag) : Addr := match K.lookup (prA K C f) with
  | some ⟨_, _, .fields vs, _⟩ => (match vs[0]? with
    | some (Value.ref g) => g
    | _ => 0)
  | _ => 0
def propB (K : PySem.W.Frag) (C f : Str) : Bool := He.eqO (PySem.W.findIn K (.ref (He.ga K C)) f) (some (some (.ref (prA K C f)))) && (He.eqO (PySem.W.specialIn K (.ref (prA K C f)) "__get__") (some (some (.builtin "property.__get__"))) &&
  (decide (PySem.W.takesIn K (.ref (prA K C f)) = some true) && (match PySem.W.recIn K (prA K C f) "property" with
    | some (.ref g :: _) => decide (g = prG C f K)
    | _ => false)))
theorem propB_ok {K : PySem.W.Frag} {C f : Str} (h : propB K C f = true) : PropOf K (He.ga K C) f (prA K C f) (prG C f K) := by
  unfold propB at h
  simp only [Bool.and_eq_true, decide_eq_true_eq] at h
  obtain ⟨h1, h2, h3, h4⟩ := h
  refine ⟨He.eqO_ok h1, He.eqO_ok h2, h3, ?_⟩
  split at h4
  · rename_i g rest e
    have eg : g = prG C f K := of_decide_eq_true h4
    exact ⟨rest, by rw [e, eg]⟩
  · cases h4
/-! ### the Hook -/
abbrev AlZ : Type := ((He.AlT × Bool) × List FnZ) × List He.FnW
def obsZ (n : Nat) (fa : List He.Fa) (fn : List He.DefD) (ts : List He.Tab) (xs : List SuD) (ps : List PD) (ex : PySem.W.Frag → Bool) (g : Addr → Option Obj) : AlZ :=
  (((He.obsT fa fn ts (frY g n), ex (frY g n) && ps.all fun d => d.ok (frY g n)), xs.map fun d => suW (frY g n) d.cls), ps.map fun d => pdW (frY g n) d)
def valZ (fn : List He.DefD) (ts : List He.Tab) (xs : List SuD) (ps : List PD) (w : World) : AlZ := (((He.valT fn ts w, true), xs.map SuD.val), ps.map PD.val)
structure SaysZ (fa : List He.Fa) (fn : List He.DefD) (ts : List He.Tab) (xs : List SuD) (ps : List PD) (ex : PySem.W.Frag → Bool) (w : World) (K : PySem.W.Frag) : Prop where
  t : He.SaysT fa fn ts w K
  more : ex K = true
  pok : (ps.all fun d => d.ok K) = true
  sup : xs.map (fun d => suW K d.cls) = xs.map SuD.val
  pth : ps.map (fun d => pdW K d) = ps.map PD.val
theorem saysZ_of {fa : List He.Fa} {fn : List He.DefD} {ts : List He.Tab} {xs : List SuD} {ps : List PD} {ex : PySem.W.Frag → Bool} {w : World} {n : Nat} {g : Addr → Option Obj} (e : obsZ n fa fn ts xs ps ex g = valZ fn ts xs ps w) : SaysZ fa fn ts xs ps ex w (frY g n) := by
  have e1 : (ex (frY g n) && ps.all fun d => d.ok (frY g n)) = true := congrArg (fun z : AlZ => z.1.1.2) e
  rw [Bool.and_eq_true] at e1
  exact ⟨congrArg (fun z : AlZ => z.1.1.1) e, e1.1, e1.2, congrArg (fun z : AlZ => z.1.2) e, congrArg (fun z : AlZ => z.2) e⟩
def hookZ (n : Nat) (fa : List He.Fa) (fn : List He.DefD) (ts : List He.Tab) (xs : List SuD) (ps : List PD) (ex : PySem.W.Frag → Bool) : PySem.W.Hook where
  α := AlZ
  obs := fun s => obsZ n fa fn ts xs ps ex s.heap.get?
  val := fun w => valZ fn ts xs ps w
  says := fun w h => ∃ K : PySem.W.Frag, K.In h ∧ SaysZ fa fn ts xs ps ex w K
  of := fun _ _ e => ⟨_, He.frT_in, saysZ_of e⟩
  keeps := fun _ _ _ ⟨K, hK, c⟩ k => ⟨K, PySem.W.Frag.In.keeps hK k, c⟩
theorem obsZ_eq {n : Nat} {fa : List He.Fa} {fn : List He.DefD} {ts : List He.Tab} {xs : List SuD} {ps : List PD} {ex : PySem.W.Frag → Bool} {g : Addr → Option Obj} {s : Shared} (h : ∀ a, g a = s.heap.get? a) : obsZ n fa fn ts xs ps ex g = (hookZ n fa fn ts xs ps ex).obs s := by
  have e : g = s.heap.get? := funext h
  rw [e] <;> rfl
theorem SaysZ.path {fa : List He.Fa} {fn : List He.DefD} {ts : List He.Tab} {xs : List SuD} {ps : List PD} {ex : PySem.W.Frag → Bool} {w : World} {K : PySem.W.Frag} (c : SaysZ fa fn ts xs ps ex w K) (i : Nat) {d : PD} (h : ps[i]? = some d := by rfl) :
    ∃ fd, FunD K d.name d.qual (defArgs d.st) (defBody d.st) (defScope d.st) [] [] (d.at_ K) fd := by
  have e2 : (ps.map fun d => pdW K d)[i]? = (ps.map PD.val)[i]? := by rw [c.pth]
  rw [List.getElem?_map, List.getElem?_map, h] at e2
  exact PD.funD (Option.some.inj e2) (List.all_eq_true.mp c.pok d (List.mem_of_getElem? h))
/-! ### a table of texts with text keys, read for every text -/
def tabOfB (K : PySem.W.Frag) (a : Addr) (kvs : List (Str × Str)) : Bool := match K.lookup a with
  | some ⟨.type c, none, .dict es _, sl⟩ => decide (c = "dict") && (sl.isEmpty && decide (es.toList.map (fun e => (match e.key, e.val with | .str x _, .str y _ => some (x, y) | _, _ => none)) = kvs.map some))
  | _ => false
theorem tab_find {z : Str} : ∀ {l : List DictEntry} {kvs : List (Str × Str)}, l.map (fun e => (match e.key, e.val with | .str x _, .str y _ => some (x, y) | _, _ => none)) = kvs.map some →
    (∃ e y t, l.find? (·.key.isStr z) = some e ∧ kvs.lookup z = some y ∧ e.val = .str y t) ∨ (l.find? (·.key.isStr z) = none ∧ kvs.lookup z = none ∧ l.any (·.refKey) = false)
  | [], [], _ => .inr ⟨rfl, rfl, rfl⟩
  | [], _ :: _, h => by cases h
  | _ :: _, [], h => by cases h
  | e :: l, (x, y) :: kvs, h => by
    obtain ⟨h1, h2⟩ := List.cons.inj h
    obtain ⟨hash, key, val⟩ := e
    dsimp only at h1
    split at h1
    · rename_i x' t1 y' t2
      obtain ⟨rfl, rfl⟩ := Prod.mk.inj (Option.some.inj h1)
      by_cases hz : x' = z
      · subst hz
        refine .inl ⟨⟨hash, .str x' t1, .str y' t2⟩, y', t2, ?_, by simp [List.lookup], rfl⟩
        simp [List.find?, Value.isStr]
      · have k1 : (⟨hash, .str x' t1, .str y' t2⟩ : DictEntry).key.isStr z = false := by simp [Value.isStr, hz]
        have k2 : (z == x') = false := by simp [Ne.symm hz]
        rcases tab_find (z := z) h2 with ⟨e, y, t, a, b, c⟩ | ⟨a, b, c⟩
        · refine .inl ⟨e, y, t, ?_, ?_, c⟩
          · rw [List.find?_cons, k1]
            exact a
          · rw [List.lookup_cons, k2]
            exact b
        · refine .inr ⟨?_, ?_, ?_⟩
          · rw [List.find?_cons, k1]
            exact a
          · rw [List.lookup_cons, k2]
            exact b
          · rw [List.any_cons, c]
            rfl
    · cases h1
theorem tab_look {K : PySem.W.Frag} {a : Addr} {kvs : List (Str × Str)} (h : tabOfB K a kvs = true) (z : Str) : (∃ y t, kvs.lookup z = some y ∧ PySem.W.nsIn K a z = some (some (.str y t))) ∨ (kvs.lookup z = none ∧ PySem.W.nsIn K a z = some none) := by
  unfold tabOfB at h
  split at h
  · rename_i c es n sl e
    simp only [Bool.and_eq_true, decide_eq_true_eq] at h
    unfold PySem.W.nsIn
    rw [e]
    dsimp only
    rcases tab_find (z := z) h.2.2 with ⟨en, y, t, q1, q2, q3⟩ | ⟨q1, q2, q3⟩
    · rw [q1]
      exact .inl ⟨y, t, q2, congrArg (fun v => some (some v)) q3⟩
    · rw [q1]
      exact .inr ⟨q2, by show (if (es.toList.any fun x => x.refKey) = true then none else some none) = some none; rw [q3]; rfl⟩
  · cases h
end EX2
set_option Elab.async false
set_option linter.all false
set_option maxRecDepth 100000
set_option maxHeartbeats 0
namespace K50
open PySem PySem.Spec PyProof.Rows L2
abbrev RW : PySem.W.OpenLaw := PySem.Challenge.rw_lateclasses_k50_class_texts_written
def top (i : Nat) : Stmt := PySem.Challenge.pw_lateclasses_k50_class_texts_written.main.body.getD i (.Pass ⟨0, 0, 0, 0⟩)
def dfn (x : Str) (i : Nat) : He.DefD := ⟨(x, none), x, x, defArgs (top i), defBody (top i), defScope (top i), [], []⟩
def mth (c m q : Str) (i j : Nat) : He.DefD := ⟨(c, some m), m, q, defArgs (inClass (top i) j), defBody (inClass (top i) j), defScope (inClass (top i) j), [], []⟩
/-- a keyword default of ClassText.__init__ -/
def kdAt (x : Str) (K : PySem.W.Frag) : Addr := match K.lookup (He.fAd K ("ClassText", some "__init__")) with
  | some ⟨_, _, .func fd, _⟩ => (match fd.kwdefaults with
    | .ref D => (match PySem.W.nsIn K D x with
      | some (some (.ref a)) => a
      | _ => 0)
    | _ => 0)
  | _ => 0
/-- .. is the empty tuple -/
def empB (K : PySem.W.Frag) (x : Str) : Bool := match K.lookup (kdAt x K) with
  | some ⟨.type c, _, .seq its _, _⟩ => decide (c = "tuple") && decide (its.size = 0)
  | _ => false
def fn : List He.DefD := [dfn "_wall" 0, dfn "is_integer" 9, dfn "is_in_range" 10, dfn "is_name" 11, dfn "is_type" 12, dfn "is_sequence" 13, dfn "fits" 19, dfn "is_instruction" 20, dfn "drawers_in" 21, dfn "targets_in" 22, dfn "is_code" 23, dfn "is_size" 24, dfn "is_class_name" 28, dfn "are_marks" 29, dfn "is_field" 30, dfn "are_fields" 31, dfn "are_methods" 32, dfn "number_of" 37, dfn "item_text" 38, dfn "method_lines" 39, dfn "format_class" 40, dfn "item_of" 41, dfn "instruction_of" 42, dfn "parse_class" 44, dfn "_law_source" 46, dfn "_law_draw" 47, dfn "_law_pick" 48, dfn "_law_kind" 49, dfn "_law_jump" 50, dfn "_law_arrays" 51, dfn "_law_calls" 52, dfn "_law_steps" 53, dfn "_law_code" 54, dfn "_law_class" 55, dfn "_law_item" 56, dfn "_law_written" 57, dfn "_law_known" 58, dfn "law" 59,
  mth "Method" "__init__" "Method.__init__" 25 0, mth "Method" "parts" "Method.parts" 25 6, mth "Method" "__eq__" "Method.__eq__" 25 7,
  ⟨("ClassText", some "__init__"), "__init__", "ClassText.__init__", defArgs (inClass (top 33) 0), defBody (inClass (top 33) 0), defScope (inClass (top 33) 0), [], [("above", .str "top"), ("marks", .adr (kdAt "marks")), ("fields", .adr (kdAt "fields")), ("methods", .adr (kdAt "methods"))]⟩, mth "ClassText" "parts" "ClassText.parts" 33 9, mth "ClassText" "__eq__" "ClassText.__eq__" 33 10, mth "ClassReader" "__init__" "ClassReader.__init__" 43 0, mth "ClassReader" "refuse" "ClassReader.refuse" 43 1, mth "ClassReader" "first_word" "ClassReader.first_word" 43 2, mth "ClassReader" "take" "ClassReader.take" 43 3, mth "ClassReader" "take_names" "ClassReader.take_names" 43 4, mth "ClassReader" "read_field" "ClassReader.read_field" 43 5, mth "ClassReader" "read_head" "ClassReader.read_head" 43 6, mth "ClassReader" "read_code" "ClassReader.read_code" 43 7, mth "ClassReader" "read_method" "ClassReader.read_method" 43 8, mth "ClassReader" "read_all" "ClassReader.read_all" 43 9]
def fns : List Str := (["_wall", "is_integer", "is_in_range", "is_name", "is_type", "is_sequence", "fits", "is_instruction", "drawers_in", "targets_in", "is_code", "is_size", "is_class_name", "are_marks", "is_field", "are_fields", "are_methods", "number_of", "item_text", "method_lines"] : List Str) ++ (["format_class", "item_of", "instruction_of", "parse_class", "_law_source", "_law_draw", "_law_pick", "_law_kind", "_law_jump", "_law_arrays", "_law_calls", "_law_steps", "_law_code", "_law_class", "_law_item", "_law_written", "_law_known"] : List Str)
def fa : List He.Fa := [.str "LETTERS" "abcdefghijklmnopqrstuvwxyz", .str "TOP_NAME" "top", .int "MOST_CODE" 40, .int "MOST_SIZE" 10, .int "MOST_PARAMS" 4, .glo "FORMS", .glo "Method", .glo "law", .mkr "Method", .cls "Method", .noat "Method" "own_name", .noat "Method" "own_params", .noat "Method" "own_result", .noat "Method" "own_size", .noat "Method" "own_code"] ++
  (fns.map He.Fa.glo) ++ [.free "isinstance", .free "len", .free "all", .free "any", .free "int", .free "bool", .free "str", .free "list", .free "tuple", .free "zip", .free "range", .free "max", .free "min", .free "repr", .free "super", .free "set", .free "sorted", .glo "InvalidMethod", .glo "InvalidClass", .glo "ParseError", .glo "ClassError", .meth "Method" "parts", .meth "Method" "__eq__", .glo "ClassText", .mkr "ClassText", .cls "ClassText", .noat "ClassText" "own_name", .noat "ClassText" "own_above", .noat "ClassText" "own_marks", .noat "ClassText" "own_fields", .noat "ClassText" "own_methods", .meth "ClassText" "parts", .meth "ClassText" "__eq__", .glo "ClassReader", .mkr "ClassReader", .cls "ClassReader", .noat "ClassReader" "lines", .noat "ClassReader" "at", .meth "ClassReader" "refuse", .meth "ClassReader" "first_word", .meth "ClassReader" "take", .meth "ClassReader" "take_names", .meth "ClassReader" "read_field", .meth "ClassReader" "read_head", .meth "ClassReader" "read_code", .meth "ClassReader" "read_method", .meth "ClassReader" "read_all", .str "DIGITS" "0123456789", .int "MOST_DIGITS" 30, .int "MOST_PARTS" 8]
def forms : List (Str × Str) := [("new", "rc"), ("array", "rcn"), ("null", "r"), ("move", "rr"), ("get", "rrcft"), ("put", "rcftr"), ("call", "rrcfytx"), ("ask", "rrcfytx"), ("cast", "rrc"), ("load", "rrn"), ("store", "rnr"), ("jump", "j"), ("ifnull", "rj"), ("ifis", "rcj"), ("choose", "j"), ("tell", "r"), ("return", "r")]
def ts : List He.Tab := [(fun K => He.ga K "FORMS", forms.map (·.1))]
def pd (f q : Str) (j : Nat) : EX2.PD := ⟨EX2.prG "Method" f, f, q, inClass (top 25) j⟩
def pdC (f q : Str) (j : Nat) : EX2.PD := ⟨EX2.prG "ClassText" f, f, q, inClass (top 33) j⟩
def pds : List EX2.PD := [pd "name" "Method.name" 1, pd "params" "Method.params" 2, pd "result" "Method.result" 3, pd "size" "Method.size" 4, pd "code" "Method.code" 5, pdC "name" "ClassText.name" 1, pdC "above" "ClassText.above" 2, pdC "marks" "ClassText.marks" 3, pdC "fields" "ClassText.fields" 4, pdC "methods" "ClassText.methods" 5]
def sd (c q : Str) (i : Nat) (fl : List Str) : EX2.SuD := ⟨c, q, inClass (top i) 0, fl⟩
def xs : List EX2.SuD := [sd "InvalidMethod" "InvalidMethod.__init__" 3 ["given"], sd "InvalidClass" "InvalidClass.__init__" 4 ["given"], sd "ParseError" "ParseError.__init__" 5 ["line"]]
/-- what isinstance and != ask of a class -/
def insC (K : PySem.W.Frag) (C : Str) : Bool := He.eqO (PySem.W.findIn K (.ref (He.ga K C)) "__class__") (some (some (.builtin "object.__class__"))) && (decide (PySem.W.mroIn K (He.ga K C) (.type "object") = some true) && (decide (PySem.W.kitOne K (.type "list") (.ref (He.ga K C)) = some false) &&
  He.eqO (PySem.W.findIn K (.ref (He.ga K C)) "__ne__") (some (some (.builtin "object.__ne__")))))
def insB (K : PySem.W.Frag) : Bool := insC K "Method" && (insC K "ClassText" && ((["name", "above", "marks", "fields", "methods"] : List Str).all (EX2.propB K "ClassText") && (["marks", "fields", "methods"] : List Str).all (empB K)))
def ex (K : PySem.W.Frag) : Bool := EX2.tabOfB K (He.ga K "FORMS") forms && ((["name", "params", "result", "size", "code"] : List Str).all (EX2.propB K "Method") && (EX2.sudB PySem.Challenge.pw_lateclasses_k50_class_texts_written.main.file K "ClassError" xs &&
  (decide (((["ClassError", "InvalidMethod", "InvalidClass", "ParseError"] : List Str).map (He.ga K)).Nodup) && ((PySem.W.clsIn K (He.ga K "ClassError")).isSome && PySem.W.typeIn K (.ref (He.ga K "ClassError")) == some (.type "type"))) && insB K))
abbrev R : PySem.W.OpenRow := PySem.W.OpenLaw.row RW
abbrev hk : PySem.W.Hook := EX2.hookZ 5 fa fn ts xs pds ex
def ob (s : PySem.W.SharedT) : EX2.AlZ := EX2.obsZ 5 fa fn ts xs pds ex (HandSHeadRun.getT s)
theorem ob_eq (s : PySem.W.SharedT) : ob s = hk.obs s.abs := EX2.obsZ_eq (HandSHeadRun.getT_eq s)
def loose : List PySem.Str := ([("ClassError" : PySem.Str), ("InvalidMethod" : PySem.Str), ("InvalidClass" : PySem.Str), ("ParseError" : PySem.Str), ("LETTERS" : PySem.Str), ("TOP_NAME" : PySem.Str), ("FORMS" : PySem.Str), ("MOST_CODE" : PySem.Str), ("MOST_SIZE" : PySem.Str), ("MOST_PARAMS" : PySem.Str), ("Method" : PySem.Str), ("ClassText" : PySem.Str), ("ClassReader" : PySem.Str), ("DIGITS" : PySem.Str), ("MOST_DIGITS" : PySem.Str), ("MOST_PARTS" : PySem.Str)] : List PySem.Str) ++ fns
theorem runF (w : World) : HandSHeadRun.RunEq R (PySem.W.view R.prog [59]) hk ob 14000 loose (w.withFollow "special-get-raises" false) := by
  intro os
  kernel_rfl
theorem runT (w : World) : HandSHeadRun.RunEq R (PySem.W.view R.prog [59]) hk ob 14000 loose (w.withFollow "special-get-raises" true) := by
  intro os
  kernel_rfl
theorem run (w : World) : HandSHeadRun.RunEq R (PySem.W.view R.prog [59]) hk ob 14000 loose w := PySem.W.byRow2 "special-get-raises" runF runT w
end K50
set_option Elab.async false
set_option linter.all false
set_option maxRecDepth 100000
set_option maxHeartbeats 1000000
/-! zip of a text and a tuple -/
namespace RZ
open PySem
open PySem.Sem (wp)
section
variable {prog : Program} {w : World} {A : Around} {E : Value → Shared → Prop} {s : Shared}
theorem zipS_next_item {z TI TO i1 i2 l1 l2 : Addr} {k1 k2 c0 : Nat} {tx : Str} {tt : Tok} {ys : Array Value} {y a b : Value} {Q : Value → Shared → Prop} (D : ZipApart z TI TO i1 i2 l1 l2)
    (hz : IsZip s.heap z TI TO .none) (hTI : IsPair s.heap TI (.ref i1) (.ref i2)) (hTO : IsPair s.heap TO a b)
    (h1 : s.heap.IsStrIter i1 "str_ascii_iterator" tx tt k1) (h2 : s.heap.IsTupleIter i2 l2 k2) (hl2 : s.heap.IsTuple l2 ys) (hx : tx.cps[k1]? = some c0) (hy : ys[k2]? = some y)
    (hQ : ∀ h', IsZip h' z TI TO (rawInt s.heap.objs.size) → IsPair h' TO (.str ⟨#[c0]⟩ s.toks) y → h'.IsStrIter i1 "str_ascii_iterator" tx tt (k1 + 1) → h'.IsTupleIter i2 l2 (k2 + 1) → IsPair h' s.heap.objs.size (.str ⟨#[c0]⟩ s.toks) y → h'.objs.size = s.heap.objs.size + 1 →
      (∀ c o, c ≠ z → c ≠ TO → c ≠ i1 → c ≠ i2 → s.heap.get? c = some o → h'.get? c = some o) → Q (.ref s.heap.objs.size) { s with heap := h', toks := s.toks + 1 }) :
    wpAny (model prog w) A (Builtin.«zip.__next__» ⟨[.ref z], []⟩) (fun fin s' => ∃ v, fin = .done (.ret v) ∧ Q v s') E s := by
  show wpAny _ _ (field (.ref z) 2 >>= _) _ _ _
  refine wpAny_bind (wpAny_field hz rfl (x := .bool false) rfl ?_)
  show wpAny _ _ (field (.ref z) 3 >>= _) _ _ _
  refine wpAny_bind (wpAny_field hz rfl (x := .ref TI) rfl ?_)
  refine wpAny_bind (wpAny_seqItems hTI rfl ?_)
  show wpAny _ _ (Builtin.SmallTypes.ownedTupleIsFree (.ref z) >>= _) _ _ _
  refine wpAny_bind ?_
  unfold Builtin.SmallTypes.ownedTupleIsFree
  refine wpAny_bind (wpAny_field hz rfl (x := .none) rfl (wpAny_pure ?_))
  simp only [if_true]
  refine wpAny_bind (wpAny_rule ?_)
  refine wpAny_bind (wpAny_field hz rfl (x := .ref TO) rfl ?_)
  refine wpAny_bind (wpAny_setField_rec hz (by simp) fun h₁ hz₁ hs₁ => ?_)
  replace hz₁ : IsZip h₁ z TI TO .ellipsis := hz₁
  refine wpAny_bind ?_
  simp only [List.zipIdx_cons, List.zipIdx_nil, List.forIn_cons, List.forIn_nil]

  refine wpAny_bind (wpAny_bind (wpAny_onRaise ?_))
  show wpAny _ _ (Builtin.SmallTypes.nextOf (.ref i1) >>= _) _ _ _
  refine wpAny_bind (wpAny_nextOf_ascii_item (h1.extBut hs₁.extBut D.i1z) hx fun h₂ h1₂ hs₂ => wpAny_pure ?_)
  have hTO₂ : IsPair h₂ TO a b := hs₂.extBut _ _ D.TOi1 (hs₁.extBut _ _ D.TOz hTO)
  refine wpAny_bind (wpAny_seqItems hTO₂ rfl ?_)
  refine wpAny_bind (wpAny_updateSeq_pair hTO₂ fun h₃ hTO₃ hs₃ => ?_)
  replace hTO₃ : IsPair h₃ TO (.str ⟨#[c0]⟩ s.toks) b := hTO₃
  refine wpAny_bind (wpAny_letGo (wpAny_pure ?_))

  refine wpAny_bind (wpAny_bind (wpAny_onRaise ?_))
  show wpAny _ _ (Builtin.SmallTypes.nextOf (.ref i2) >>= _) _ _ _
  refine wpAny_bind (nextOf_tuple_item (((h2.extBut hs₁.extBut D.i2z).extBut hs₂.extBut D.i12.symm).extBut hs₃.extBut D.TOi2.symm)
    (((hl2.extBut hs₁.extBut D.l2z).extBut hs₂.extBut D.l2i1).extBut hs₃.extBut D.l2TO) hy fun h₄ h2₄ hs₄ => wpAny_pure ?_)
  have hTO₄ : IsPair h₄ TO (.str ⟨#[c0]⟩ s.toks) b := hs₄.extBut _ _ D.TOi2 hTO₃
  refine wpAny_bind (wpAny_seqItems hTO₄ rfl ?_)
  refine wpAny_bind (wpAny_updateSeq_pair hTO₄ fun h₅ hTO₅ hs₅ => ?_)
  replace hTO₅ : IsPair h₅ TO (.str ⟨#[c0]⟩ s.toks) y := hTO₅
  refine wpAny_bind (wpAny_letGo (wpAny_pure (wpAny_pure ?_)))

  refine wpAny_bind (wpAny_seqItems hTO₅ rfl ?_)
  refine wpAny_bind (wpAny_newTuple ?_)
  have hsz : h₅.objs.size = s.heap.objs.size := by rw [hs₅.1, hs₄.1, hs₃.1, hs₂.1, hs₁.1]
  have hz₅ : IsZip h₅ z TI TO .ellipsis := hs₅.extBut _ _ D.TOz.symm (hs₄.extBut _ _ D.i2z.symm (hs₃.extBut _ _ D.TOz.symm (hs₂.extBut _ _ D.i1z.symm hz₁)))
  have hk₅ : ∀ c o, c ≠ z → c ≠ TO → c ≠ i1 → c ≠ i2 → s.heap.get? c = some o → h₅.get? c = some o := fun c o c1 c2 c3 c4 e =>
    hs₅.extBut _ _ c2 (hs₄.extBut _ _ c4 (hs₃.extBut _ _ c2 (hs₂.extBut _ _ c3 (hs₁.extBut _ _ c1 e))))
  have h1₅ : h₅.IsStrIter i1 "str_ascii_iterator" tx tt (k1 + 1) := ((h1₂.extBut hs₃.extBut D.TOi1.symm).extBut hs₄.extBut D.i12).extBut hs₅.extBut D.TOi1.symm
  have h2₅ : h₅.IsTupleIter i2 l2 (k2 + 1) := h2₄.extBut hs₅.extBut D.TOi2.symm
  have hzlt : z < h₅.objs.size := Heap.lt_size hz₅
  have hTOlt : TO < h₅.objs.size := Heap.lt_size hTO₅
  have hi1lt : i1 < h₅.objs.size := by obtain ⟨_, e, _⟩ := h1₅; exact Heap.lt_size e
  have hi2lt : i2 < h₅.objs.size := by obtain ⟨_, e, _⟩ := h2₅; exact Heap.lt_size e
  show wpAny _ _ (Builtin.SmallTypes.ownedTupleHandOut (.ref z) (.ref h₅.objs.size) >>= _) _ _ _
  refine wpAny_bind ?_
  unfold Builtin.SmallTypes.ownedTupleHandOut
  have hz₆ : IsZip (h₅.push { cls := .type "tuple", data := .seq #[.str ⟨#[c0]⟩ s.toks, y] }) z TI TO .ellipsis := Heap.get?_push_of_some _ hz₅
  refine wpAny_bind (wpAny_setField_rec hz₆ (by simp) fun h₇ hz₇ hs₇ => ?_)
  replace hz₇ : IsZip h₇ z TI TO (rawInt h₅.objs.size) := hz₇
  refine wpAny_setField_rec hz₇ (by simp) fun h₈ hz₈ hs₈ => ?_
  replace hz₈ : IsZip h₈ z TI TO (rawInt h₅.objs.size) := hz₈
  have up : ∀ c o, c ≠ z → h₅.get? c = some o → h₈.get? c = some o := fun c o c1 e => hs₈.extBut _ _ c1 (hs₇.extBut _ _ c1 (Heap.get?_push_of_some _ e))
  have hT₈ : IsPair h₈ h₅.objs.size (.str ⟨#[c0]⟩ s.toks) y := hs₈.extBut _ _ (Nat.ne_of_gt hzlt) (hs₇.extBut _ _ (Nat.ne_of_gt hzlt) (Heap.get?_push_size _ rfl))
  have hz8 : h₈.objs.size = h₅.objs.size + 1 := by rw [hs₈.1, hs₇.1, Heap.size_push]
  rw [hsz] at hz₈ hT₈ hz8
  refine wpAny_pure ⟨_, rfl, ?_⟩
  show Q (.ref h₅.objs.size) _
  rw [hsz]
  exact hQ h₈ hz₈ (up _ _ D.TOz hTO₅) (let ⟨o, ho, r⟩ := h1₅; ⟨o, up _ o D.i1z ho, r⟩) (h2₅.at fun o e => up _ o D.i2z e) hT₈ hz8 fun c o c1 c2 c3 c4 e => up c o c1 (hk₅ c o c1 c2 c3 c4 e)

theorem zipS_next_end {z TI TO i1 i2 l1 l2 : Addr} {k1 k2 : Nat} {tx : Str} {tt : Tok} {ys : Array Value} {a b : Value} {Q : Fin → Shared → Prop} (hh : A.handled = none) (D : ZipApart z TI TO i1 i2 l1 l2)
    (hz : IsZip s.heap z TI TO .none) (hTI : IsPair s.heap TI (.ref i1) (.ref i2)) (hTO : IsPair s.heap TO a b)
    (h1 : s.heap.IsStrIter i1 "str_ascii_iterator" tx tt k1) (h2 : s.heap.IsTupleIter i2 l2 k2) (hl2 : s.heap.IsTuple l2 ys) (hend : tx.cps[k1]? = none ∨ ys[k2]? = none)
    (hE : ∀ h' e tk, (∀ c o, c ≠ z → c ≠ TO → c ≠ i1 → c ≠ i2 → s.heap.get? c = some o → h'.get? c = some o) → (∃ o, h'.get? e = some o ∧ o.cls = .type "StopIteration") → E (.ref e) { s with heap := h', toks := tk }) :
    wpAny (model prog w) A (Builtin.«zip.__next__» ⟨[.ref z], []⟩) Q E s := by
  show wpAny _ _ (field (.ref z) 2 >>= _) _ _ _
  refine wpAny_bind (wpAny_field hz rfl (x := .bool false) rfl ?_)
  show wpAny _ _ (field (.ref z) 3 >>= _) _ _ _
  refine wpAny_bind (wpAny_field hz rfl (x := .ref TI) rfl ?_)
  refine wpAny_bind (wpAny_seqItems hTI rfl ?_)
  show wpAny _ _ (Builtin.SmallTypes.ownedTupleIsFree (.ref z) >>= _) _ _ _
  refine wpAny_bind ?_
  unfold Builtin.SmallTypes.ownedTupleIsFree
  refine wpAny_bind (wpAny_field hz rfl (x := .none) rfl (wpAny_pure ?_))
  simp only [if_true]
  refine wpAny_bind (wpAny_rule ?_)
  refine wpAny_bind (wpAny_field hz rfl (x := .ref TO) rfl ?_)
  refine wpAny_bind (wpAny_setField_rec hz (by simp) fun h₁ hz₁ hs₁ => ?_)
  replace hz₁ : IsZip h₁ z TI TO .ellipsis := hz₁
  refine wpAny_bind ?_
  simp only [List.zipIdx_cons, List.zipIdx_nil, List.forIn_cons, List.forIn_nil]
  refine wpAny_bind (wpAny_bind (wpAny_onRaise ?_))
  show wpAny _ _ (Builtin.SmallTypes.nextOf (.ref i1) >>= _) _ _ _
  cases hx : tx.cps[k1]? with
  | none =>
    refine wpAny_bind (wpAny_nextOf_ascii_end hh (h1.extBut hs₁.extBut D.i1z) hx fun h₂ e hs₂ he => ?_)
    obtain ⟨oe, hoe, hce⟩ := he
    have hz₂ : IsZip h₂ z TI TO .ellipsis := hs₂ _ _ D.i1z.symm hz₁
    have hez : e ≠ z := fun x => by subst x; rw [hz₂] at hoe; cases hoe; simp at hce
    refine wpAny_setField_rec hz₂ (by simp) fun h₃ _ hs₃ => hE h₃ e _ (fun c o c1 _ c3 _ x => hs₃.extBut _ _ c1 (hs₂ _ _ c3 (hs₁.extBut _ _ c1 x))) ⟨oe, hs₃.extBut _ _ hez hoe, hce⟩
  | some c0 =>
    have hy : ys[k2]? = none := by rcases hend with h | h; rw [hx] at h; cases h; exact h
    refine wpAny_bind (wpAny_nextOf_ascii_item (h1.extBut hs₁.extBut D.i1z) hx fun h₂ h1₂ hs₂ => wpAny_pure ?_)
    have hTO₂ : IsPair h₂ TO a b := hs₂.extBut _ _ D.TOi1 (hs₁.extBut _ _ D.TOz hTO)
    refine wpAny_bind (wpAny_seqItems hTO₂ rfl ?_)
    refine wpAny_bind (wpAny_updateSeq_pair hTO₂ fun h₃ hTO₃ hs₃ => ?_)
    refine wpAny_bind (wpAny_letGo (wpAny_pure ?_))
    refine wpAny_bind (wpAny_bind (wpAny_onRaise ?_))
    show wpAny _ _ (Builtin.SmallTypes.nextOf (.ref i2) >>= _) _ _ _
    refine wpAny_bind (nextOf_tuple_end hh (((h2.extBut hs₁.extBut D.i2z).extBut hs₂.extBut D.i12.symm).extBut hs₃.extBut D.TOi2.symm)
      (((hl2.extBut hs₁.extBut D.l2z).extBut hs₂.extBut D.l2i1).extBut hs₃.extBut D.l2TO) hy fun h₄ e hs₄ he => ?_)
    obtain ⟨oe, hoe, hce⟩ := he
    have hz₄ : IsZip h₄ z TI TO .ellipsis := hs₄ _ _ D.i2z.symm (hs₃.extBut _ _ D.TOz.symm (hs₂.extBut _ _ D.i1z.symm hz₁))
    have hez : e ≠ z := fun x => by subst x; rw [hz₄] at hoe; cases hoe; simp at hce
    refine wpAny_setField_rec hz₄ (by simp) fun h₅ _ hs₅ => hE h₅ e _ (fun c o c1 c2 c3 c4 x => hs₅.extBut _ _ c1 (hs₄ _ _ c4 (hs₃.extBut _ _ c2 (hs₂.extBut _ _ c3 (hs₁.extBut _ _ c1 x))))) ⟨oe, hs₅.extBut _ _ hez hoe, hce⟩

theorem pyNext_zipS_item {z TI TO i1 i2 l1 l2 : Addr} {k1 k2 c0 : Nat} {tx : Str} {tt : Tok} {ys : Array Value} {y a b : Value} {Q : Option Value → Shared → Prop} (D : ZipApart z TI TO i1 i2 l1 l2)
    (hz : IsZip s.heap z TI TO .none) (hTI : IsPair s.heap TI (.ref i1) (.ref i2)) (hTO : IsPair s.heap TO a b)
    (h1 : s.heap.IsStrIter i1 "str_ascii_iterator" tx tt k1) (h2 : s.heap.IsTupleIter i2 l2 k2) (hl2 : s.heap.IsTuple l2 ys) (hx : tx.cps[k1]? = some c0) (hy : ys[k2]? = some y)
    (hQ : ∀ h', IsZip h' z TI TO (rawInt s.heap.objs.size) → IsPair h' TO (.str ⟨#[c0]⟩ s.toks) y → h'.IsStrIter i1 "str_ascii_iterator" tx tt (k1 + 1) → h'.IsTupleIter i2 l2 (k2 + 1) → IsPair h' s.heap.objs.size (.str ⟨#[c0]⟩ s.toks) y → h'.objs.size = s.heap.objs.size + 1 →
      (∀ c o, c ≠ z → c ≠ TO → c ≠ i1 → c ≠ i2 → s.heap.get? c = some o → h'.get? c = some o) → Q (some (.ref s.heap.objs.size)) { s with heap := h', toks := s.toks + 1 }) :
    wpAny (model prog w) A (pyNext (.ref z)) Q E s := by
  have hT : s.TypeIs (.ref z) "zip" := ⟨_, hz, rfl⟩
  unfold pyNext
  exact wpAny_bind (wpAny_attempt (wpAny_callSpecial?_slot (name := Str.ofString "__next__") hT F.slot_zip_next
    (wpAny_call_entry F.slot_zip_next hT F.entry_zip_next
      (zipS_next_item D hz hTI hTO h1 h2 hl2 hx hy fun h' a1 a2 a3 a4 a5 a6 a7 => wpAny_pure (hQ h' a1 a2 a3 a4 a5 a6 a7)) (F.args_zip_next_1 _))))

theorem pyNext_zipS_end {z TI TO i1 i2 l1 l2 : Addr} {k1 k2 : Nat} {tx : Str} {tt : Tok} {ys : Array Value} {a b : Value} {Q : Option Value → Shared → Prop} (hh : A.handled = none) (D : ZipApart z TI TO i1 i2 l1 l2)
    (hz : IsZip s.heap z TI TO .none) (hTI : IsPair s.heap TI (.ref i1) (.ref i2)) (hTO : IsPair s.heap TO a b)
    (h1 : s.heap.IsStrIter i1 "str_ascii_iterator" tx tt k1) (h2 : s.heap.IsTupleIter i2 l2 k2) (hl2 : s.heap.IsTuple l2 ys) (hend : tx.cps[k1]? = none ∨ ys[k2]? = none)
    (hQ : ∀ h' tk, (∀ c o, c ≠ z → c ≠ TO → c ≠ i1 → c ≠ i2 → s.heap.get? c = some o → h'.get? c = some o) → Q none { s with heap := h', toks := tk }) : wpAny (model prog w) A (pyNext (.ref z)) Q E s := by
  have hT : s.TypeIs (.ref z) "zip" := ⟨_, hz, rfl⟩
  unfold pyNext
  refine wpAny_bind (wpAny_attempt (wpAny_callSpecial?_slot (name := Str.ofString "__next__") hT F.slot_zip_next
    (wpAny_call_entry F.slot_zip_next hT F.entry_zip_next (zipS_next_end hh D hz hTI hTO h1 h2 hl2 hend fun h' e tk hk he => ?_) (F.args_zip_next_1 _))))
  obtain ⟨o, ho, hc⟩ := he
  refine wpAny_bind (wpAny_isInstance (T := "StopIteration") (b := true) ⟨o, ho, hc⟩ isSubtype_stop ?_)
  exact wpAny_pure (hQ _ _ hk)
end


abbrev zipSH1 (h : Heap) (tx : Str) (tt : Tok) : Heap := h.push { cls := .type "str_ascii_iterator", data := .fields #[.str tx tt, .int 0 0] }
abbrev zipSH2 (h : Heap) (tx : Str) (tt : Tok) (l2 : Addr) : Heap := (zipSH1 h tx tt).push { cls := .type "tuple_iterator", data := .fields #[.ref l2, .int 0 0] }
abbrev zipSH3 (h : Heap) (tx : Str) (tt : Tok) (l2 : Addr) : Heap := (zipSH2 h tx tt l2).push { cls := .type "tuple", data := .seq #[.ref h.objs.size, .ref (zipSH1 h tx tt).objs.size] }
abbrev zipSH4 (h : Heap) (tx : Str) (tt : Tok) (l2 : Addr) : Heap := (zipSH3 h tx tt l2).push { cls := .type "tuple", data := .seq #[.none, .none] }
abbrev zipSH5 (h : Heap) (tx : Str) (tt : Tok) (l2 : Addr) : Heap := (zipSH4 h tx tt l2).push { cls := .type "zip", data := .fields #[.none, .bool false, .bool false, .ref (zipSH2 h tx tt l2).objs.size, .ref (zipSH3 h tx tt l2).objs.size] }
theorem meets_zipS_new (tx : Str) (tt : Tok) (l2 : Addr) (ys : Array Value) (ha : tx.cps.all (· < 128) = true) :
    Meets (Builtin.«zip.__new__» ⟨[.type "zip", .str tx tt, .ref l2], []⟩) (fun _ R s => s.heap.IsTuple l2 ys ∧
      R (.ok (.ret (.ref (zipSH4 s.heap tx tt l2).objs.size))) { s with heap := zipSH5 s.heap tx tt l2 }) :=
  .of_wp fun prog w A R s h => by
    obtain ⟨hp, g, d, tk, os⟩ := s; obtain ⟨hl2, h⟩ := h
    have hsub := sub_zip
    have hL2 : Heap.IsTuple (Shared.heap ⟨hp.push { cls := .type "str_ascii_iterator", data := .fields #[.str tx tt, .int 0 0] }, g, d, tk, os⟩) l2 ys := Heap.IsTuple.push hl2 _
    wp_walk using wpAny_pyIter_ascii ha, wpAny_pyIter_tuple hL2
    exact ⟨_, rfl, h⟩
section
variable {prog : Program} {w : World} {A : Around} {E : Value → Shared → Prop} {s : Shared}
theorem call_zipS {tx : Str} {tt : Tok} {l2 : Addr} {ys : Array Value} {Q : Value → Shared → Prop} (ha : tx.cps.all (· < 128) = true) (hl2 : s.heap.IsTuple l2 ys)
    (h : ∀ h', IsZip h' (s.heap.objs.size + 4) (s.heap.objs.size + 2) (s.heap.objs.size + 3) .none → IsPair h' (s.heap.objs.size + 2) (.ref s.heap.objs.size) (.ref (s.heap.objs.size + 1)) →
      IsPair h' (s.heap.objs.size + 3) .none .none → h'.IsStrIter s.heap.objs.size "str_ascii_iterator" tx tt 0 → h'.IsTupleIter (s.heap.objs.size + 1) l2 0 → h'.objs.size = s.heap.objs.size + 5 →
      (∀ c o, s.heap.get? c = some o → h'.get? c = some o) → Q (.ref (s.heap.objs.size + 4)) { s with heap := h' }) :
    wpAny (model prog w) A (call (.type "zip") [.str tx tt, .ref l2]) Q E s := by
  refine callType_new F.called_zip (by decide) (F.typeCall_zip_2 _ _) (F.newCall_zip_2 _ _) (fun obj => F.args_object_init_3 obj _ _) F.entry_zip_new
    (meets_zipS_new tx tt l2 ys ha) ⟨hl2, ?_⟩
  have z1 : (zipSH1 s.heap tx tt).objs.size = s.heap.objs.size + 1 := Heap.size_push ..
  have z2 : (zipSH2 s.heap tx tt l2).objs.size = s.heap.objs.size + 2 := by rw [Heap.size_push, z1]
  have z3 : (zipSH3 s.heap tx tt l2).objs.size = s.heap.objs.size + 3 := by rw [Heap.size_push, z2]
  have z4 : (zipSH4 s.heap tx tt l2).objs.size = s.heap.objs.size + 4 := by rw [Heap.size_push, z3]
  have z5 : (zipSH5 s.heap tx tt l2).objs.size = s.heap.objs.size + 5 := by rw [Heap.size_push, z4]
  have g5 : (zipSH5 s.heap tx tt l2).get? (zipSH4 s.heap tx tt l2).objs.size = some _ := Heap.get?_push_size _ rfl
  have g4 : (zipSH5 s.heap tx tt l2).get? (zipSH3 s.heap tx tt l2).objs.size = some _ := Heap.get?_push_of_some _ (Heap.get?_push_size _ rfl)
  have g3 : (zipSH5 s.heap tx tt l2).get? (zipSH2 s.heap tx tt l2).objs.size = some _ := Heap.get?_push_of_some _ (Heap.get?_push_of_some _ (Heap.get?_push_size _ rfl))
  have g2 : (zipSH5 s.heap tx tt l2).get? (zipSH1 s.heap tx tt).objs.size = some _ := Heap.get?_push_of_some _ (Heap.get?_push_of_some _ (Heap.get?_push_of_some _ (Heap.get?_push_size _ rfl)))
  have g1 : (zipSH5 s.heap tx tt l2).get? s.heap.objs.size = some _ := Heap.get?_push_of_some _ (Heap.get?_push_of_some _ (Heap.get?_push_of_some _ (Heap.get?_push_of_some _ (Heap.get?_push_size _ rfl))))
  show _ ∧ _
  rw [z2, z3, z4] at g5
  rw [z1, z2] at g3
  rw [z3] at g4
  rw [z1] at g2
  rw [z4]
  exact ⟨⟨_, g5, rfl⟩, h _ g5 g3 g4 ⟨_, g1, rfl, rfl⟩ ⟨_, g2, rfl, rfl⟩ z5 fun c o x =>
    Heap.get?_push_of_some _ (Heap.get?_push_of_some _ (Heap.get?_push_of_some _ (Heap.get?_push_of_some _ (Heap.get?_push_of_some _ x))))⟩
end
end RZ
set_option Elab.async false
set_option linter.all false
set_option maxRecDepth 100000
set_option maxHeartbeats 1000000
namespace ZS
open PySem PySem.Spec PyProof.Rows L2
/-- a text's signs and the items of the tuple at b, in new pairs -/
def Itzs (K : PySem.W.Frag) (z : Str) (b : Addr) : It :=
  ⟨fun i H => ∃ (ys : List V) (c : Nat) (y : V), SqT K H b ys ∧ z.cps[i]? = some c ∧ ys[i]? = some y,
    fun i H v H' => ∃ T c y, v = .ref T ∧ H T = none ∧ H' = upd H T (.tup [.str ⟨#[c]⟩, y]) ∧ z.cps[i]? = some c ∧ ∀ ys, SqT K H b ys → ys[i]? = some y,
    fun i H => ∃ ys : List V, SqT K H b ys ∧ (z.cps.size ≤ i ∨ ys.length ≤ i)⟩
theorem turn_zipS {P : Program} {w : World} {K : PySem.W.Frag} {elts : List Expr} {kk : Nat} {tpos : Pos} {tx : Str} {tt : Tok} {a b z TI TO i1 i2 : Addr} (D : ZipApart z TI TO i1 i2 a b) :
    Turn P w K (.Tuple elts kk tpos) (Itzs K tx b) [z, TI, TO, i1, i2] z (fun i h => IsZip h z TI TO .none ∧ IsPair h TI (.ref i1) (.ref i2) ∧ (∃ x y, IsPair h TO x y) ∧ h.IsStrIter i1 "str_ascii_iterator" tx tt i ∧ h.IsTupleIter i2 b i) where
  mem := by simp
  obj := fun i h st c hc => by
    obtain ⟨hz, hTI, ⟨x, y, hTO⟩, ⟨o1, e1, _, d1⟩, ⟨o2, e2, _, d2⟩⟩ := st
    rcases (show c = z ∨ c = TI ∨ c = TO ∨ c = i1 ∨ c = i2 by simpa using hc) with rfl | rfl | rfl | rfl | rfl
    · exact ⟨_, hz, fun v q => nomatch q⟩
    · exact ⟨_, hTI, fun v q => nomatch q⟩
    · exact ⟨_, hTO, fun v q => nomatch q⟩
    · exact ⟨o1, e1, fun v q => by rw [d1] at q; cases q⟩
    · exact ⟨o2, e2, fun v q => by rw [d2] at q; cases q⟩
  keep := fun i h h' st k => by
    obtain ⟨hz, hTI, ⟨x, y, hTO⟩, ⟨o1, e1, r1⟩, h2⟩ := st
    exact ⟨k z (by simp) _ hz, k TI (by simp) _ hTI, ⟨x, y, k TO (by simp) _ hTO⟩, ⟨o1, k i1 (by simp) _ e1, r1⟩, h2.at fun o q => k i2 (by simp) o q⟩
  item := by
    intro X hP hw hK hc i pins s σ H E I hf st hg
    subst hP hw hK
    obtain ⟨hz, hTI, ⟨x0, y0, hTO⟩, h1, h2⟩ := st
    obtain ⟨ys, c, y, hqy, hx, hy⟩ := hg
    obtain ⟨its2, rv2, p2, _⟩ := I.tuple hqy
    obtain ⟨u2, hu2, ru2⟩ := rv2.get hy
    have hzl : z < s.heap.objs.size := Heap.lt_size hz
    refine RZ.pyNext_zipS_item D hz hTI hTO h1 h2 p2 (c0 := c) (y := u2) hx (by simpa using hu2) fun h' z' TO' h1' h2' hT hsz hk => ?_
    refine ⟨_, rfl, wpAny_letOwnedTupleGo_zip (s := { s with heap := h', toks := s.toks + 1 }) z' fun h'' z'' sb => ?_⟩
    have hT2 : h''.get? s.heap.objs.size = some { cls := .type "tuple", data := .seq #[.str ⟨#[c]⟩ s.toks, u2] } := (sb.2 _ (Nat.ne_of_gt hzl)).trans hT
    have new : ObjOk X.prog X.w (upd H s.heap.objs.size (.tup [.str ⟨#[c]⟩, y])) h'' s.heap.objs.size (.tup [.str ⟨#[c]⟩, y]) :=
      ⟨by show 2 ≤ sizeLine; decide, [.str ⟨#[c]⟩ s.toks, u2], .cons ⟨_, rfl⟩ (.cons ru2 .nil), ⟨_, hT2, rfl, _, rfl⟩⟩
    have I1 : Inv X pins σ (upd H s.heap.objs.size (.tup [.str ⟨#[c]⟩, y])) { s with heap := h'', toks := s.toks + 1 } :=
      I.turnedNew (t' := s.toks + 1) (ch := [z, TI, TO, i1, i2]) (fun c o hb q => (sb.2 c (fun q' => hb (by simp [q']))).trans (hk c o (fun q' => hb (by simp [q'])) (fun q' => hb (by simp [q'])) (fun q' => hb (by simp [q'])) (fun q' => hb (by simp [q'])) q)) hf (Nat.le_refl _) new
    refine ⟨.ref s.heap.objs.size, _, I1, rfl, ⟨_, c, y, rfl, I.hok.fresh (Nat.le_refl _), rfl, hx, fun l hl => by rw [I.tuple_inj hl hqy]; exact hy⟩, ⟨z'', ?_, ⟨.str ⟨#[c]⟩ s.toks, u2, ?_⟩, ?_, ?_⟩, fun d hcm => ?_⟩
    · exact (sb.2 _ D.TIz).trans (hk _ _ D.TIz D.TITO D.TIi1 D.TIi2 hTI)
    · exact (sb.2 _ D.TOz).trans TO'
    · obtain ⟨o1, e1, r1⟩ := h1'
      exact ⟨o1, (sb.2 _ D.i1z).trans e1, r1⟩
    · exact h2'.at fun o q => (sb.2 _ D.i2z).trans q
    · have hlt : d < s.heap.objs.size := by
        rcases (show d = z ∨ d = TI ∨ d = TO ∨ d = i1 ∨ d = i2 by simpa using hcm) with rfl | rfl | rfl | rfl | rfl
        · exact hzl
        · exact Heap.lt_size hTI
        · exact Heap.lt_size hTO
        · obtain ⟨_, e1, _⟩ := h1; exact Heap.lt_size e1
        · obtain ⟨_, e2, _⟩ := h2; exact Heap.lt_size e2
      rw [upd_ne (Nat.ne_of_lt hlt)]
      exact (hf d hcm).1
  done := by
    intro X hP hw hK hc i pins s σ H E I hf st hg
    subst hP hw hK
    obtain ⟨hz, hTI, ⟨x0, y0, hTO⟩, h1, h2⟩ := st
    obtain ⟨ys, hqy, hend⟩ := hg
    obtain ⟨its2, rv2, p2, _⟩ := I.tuple hqy
    have l2 := rv2.length
    have he : tx.cps[i]? = none ∨ its2.toArray[i]? = none := by
      rcases hend with q | q
      · exact .inl (Array.getElem?_eq_none q)
      · exact .inr (by simp; omega)
    exact RZ.pyNext_zipS_end (I.ok.hd hc) D hz hTI hTO h1 h2 p2 he fun h' tk hk => ⟨rfl, I.turnedL (t' := tk) (ch := [z, TI, TO, i1, i2]) (fun c o hb q =>
      hk c o (fun q' => hb (by simp [q'])) (fun q' => hb (by simp [q'])) (fun q' => hb (by simp [q'])) (fun q' => hb (by simp [q'])) q) hf⟩
  self := fun A i s Q E st h => wpAny_pyIter_zip st.1 h
def iZipS (K : PySem.W.Frag) (ta : TA) : TI := fun σ H R => ta σ H fun vs H1 => ∃ (z : Str) (b : Addr) (ys : List V), vs = [.str z, .ref b] ∧ z.cps.all (· < 128) = true ∧ SqT K H1 b ys ∧ R (Itzs K z b) H1
theorem pi_zipS {X : Cx} {e e2 : Expr} {ta : TA} {p pos tpos : Pos} {elts : List Expr} {kk : Nat} (hg : Gl X "zip") (hm : X.mg "zip" = none) (ha : PA X [e, e2] ta)
    (hs : starEach [e, e2] X.env = (false, eval e X.env) :: starEach [e2] X.env := by rfl) (hpl : (backTo pos (starEach [e2] X.env)).any (·.1) = false := by rfl) :
    PI X (.Tuple elts kk tpos) (.Call (.Name "zip" p) [e, e2] [] pos) (iZipS X.K ta) := by
  refine ⟨fun pins s σ H R I h => ?_⟩
  refine Call_ (ld_blt I hg hm PyProof.Rows.boot_zip (PyProof.Rows.callWith_type1 (thn (ha.run pos pins s σ H _ I h) fun us s1 ⟨vs, H1, I1, r1, q1⟩ => ?_) hs hpl))
  obtain ⟨z, b, ys, ex, hz, hqy, q⟩ := q1
  subst ex
  obtain ⟨u1, u2, rfl, ⟨tt, rfl⟩, rb⟩ := vals2 r1
  obtain rfl : u2 = Value.ref b := rb
  obtain ⟨its2, rv2, p2, _⟩ := I1.tuple hqy
  obtain ⟨o2, ho2, _⟩ := id p2
  have fresh5 : ∀ c, c ∈ [s1.heap.objs.size + 4, s1.heap.objs.size + 2, s1.heap.objs.size + 3, s1.heap.objs.size, s1.heap.objs.size + 1] → FpOk X pins H1 c := fun c hcm => by
    have hle : s1.heap.objs.size ≤ c := by
      simp only [List.mem_cons, List.not_mem_nil, or_false] at hcm
      omega
    exact I1.fpOk hle (I1.hok.fresh hle)
  refine RZ.call_zipS hz (show s1.heap.IsTuple b its2.toArray from p2) fun h' hzp hTI hTO h1 h2 hsz hk => wpAny_pyIter_zip hzp ?_
  have I2 : Inv X pins σ H1 { s1 with heap := h' } := I1.kept (t' := s1.toks) hk
  exact ⟨s1.heap.objs.size + 4, [s1.heap.objs.size + 4, s1.heap.objs.size + 2, s1.heap.objs.size + 3, s1.heap.objs.size, s1.heap.objs.size + 1], _, _, H1, rfl, I2, turn_zipS (PySem.W.ktu_apart s1.heap.objs.size b b (Heap.lt_size ho2) (Heap.lt_size ho2)), ⟨hzp, hTI, ⟨_, _, hTO⟩, h1, h2⟩, fresh5, q⟩
theorem walk_zipS {K : PySem.W.Frag} {z : Str} {b : Addr} {ys : List V} {n : Nat} (hn : n = min z.cps.size ys.length) : Walk (Itzs K z b) n (fun H => SqT K H b ys) (YPair (fun i => z.cps[i]?.map fun c => .str ⟨#[c]⟩) (fun i => ys[i]?)) := by
  subst hn
  refine ⟨fun i _ hi q => ?_, fun _ q => ⟨ys, q, by omega⟩, fun i H v H' _ q y => ?_⟩
  · have h1 : i < z.cps.size := by omega
    have h2 : i < ys.length := by omega
    exact ⟨ys, z.cps[i], ys[i], q, by simp [h1], by simp [h2]⟩
  · obtain ⟨T, c, y, h1, h2, h3, h4, h5⟩ := y
    exact ⟨T, .str ⟨#[c]⟩, y, h1, h2, h3, by simp [h4], h5 ys q⟩
end ZS
set_option Elab.async false
set_option linter.all false
set_option maxRecDepth 100000
set_option maxHeartbeats 0
namespace K50
open PySem PySem.Spec PyProof.Rows L2
abbrev FnP (K : PySem.W.Frag) (x : Str) (st : Stmt) (f : Addr) (fd : FuncData) : Prop := FunD K x x (defArgs st) (defBody st) (defScope st) [] [] f fd
/-- the globals that stay free -/
structure Txt (K : PySem.W.Frag) (mg : Str → Option Value) : Prop where
  isi : mg "isinstance" = none
  len : mg "len" = none
  all : mg "all" = none
  str : mg "str" = none
  max : mg "max" = none
  min : mg "min" = none
  int : mg "int" = none
  rng : mg "range" = none
  tup : mg "tuple" = none
  any : mg "any" = none
  bl : mg "bool" = none
  lst : mg "list" = none
  zip : mg "zip" = none
  set : mg "set" = none
  sorted : mg "sorted" = none
abbrev sSource : Stmt := top 46
abbrev sDraw : Stmt := top 47
abbrev nSource : List Str := ["_law_script", "_law_turn", "_law_cell", "_law_number", "_law_seed"]
abbrev nDraw : List Str := ["_law_source_here", "_law_amount", "_law_digit"]
def rS : Int := 2147483647
/-- what a source holds -/
def Src (H : Hp) (p : Addr) : Prop := ∃ N S : Int, H p = some (.lst [.int N, .int S]) ∧ 0 ≤ N ∧ 0 ≤ S ∧ S < 2147483647
def spSource (K : PySem.W.Frag) : Sp := fun vs H Q _ => ∃ (a : Addr) (ns : List Int) (t : Int), vs = [.ref a, .int t] ∧ SqL K H a (ns.map V.int) ∧ 0 ≤ t ∧ t < 100 ∧
  ∀ p N S, H p = none → 0 ≤ N → 0 ≤ S → S < 2147483647 → Q (.ref p) (upd H p (.lst [.int N, .int S]))
def spDraw : Sp := fun vs H Q _ => ∃ (p : Addr) (N S m : Int), vs = [.ref p, .int m] ∧ H p = some (.lst [.int N, .int S]) ∧ 0 ≤ N ∧ 0 ≤ S ∧ S < 2147483647 ∧ 0 < m ∧ m < 1073741824 ∧
  ∀ d N' S', 0 ≤ d → d < m → 0 ≤ N' → 0 ≤ S' → S' < 2147483647 → Q (.int d) (upd H p (.lst [.int N', .int S']))
section
variable {P : Program} {w : World} {K : PySem.W.Frag} {mg : Str → Option Value} {base : Heap} {f : Addr} {fd : FuncData}
theorem scSource : FnScope nSource ["_law_script", "_law_turn"] (defScope sSource) := ⟨rfl, rfl, rfl, by decide +kernel, rfl, by decide +kernel, by decide +kernel⟩
theorem scDraw : FnScope nDraw ["_law_source_here", "_law_amount"] (defScope sDraw) := ⟨rfl, rfl, rfl, by decide +kernel, rfl, by decide +kernel, by decide +kernel⟩
theorem boot_len : bootBuiltins "len" = some (.builtin "len") := by kernel_rfl
theorem boot_max : bootBuiltins "max" = some (.builtin "max") := by kernel_rfl
theorem boot_int : bootBuiltins "int" = some (.type "int") := by kernel_rfl
theorem atI_int {ns : List Int} {t : Int} (h0 : 0 ≤ t) (h1 : t < (ns.map V.int).length) : ∃ c, L2.atI (ns.map V.int) t = some (.int c) := by
  obtain ⟨k, rfl⟩ := Int.eq_ofNat_of_zero_le h0
  have hk : k < ns.length := by rw [List.length_map] at h1; exact Int.ofNat_lt.mp h1
  exact ⟨ns[k], atI_nat (by rw [List.getElem?_map, List.getElem?_eq_getElem hk]; rfl)⟩
theorem two_ok : 2 ≤ sizeLine := by rw [sizeLine_eq]; decide
theorem ok_source (F : FnP K "_law_source" sSource f fd) (T : Txt K mg) : FnOk P w K mg base CX0 1 f fd ["_law_script", "_law_turn"] (spSource K) := by
  refine F.ok scSource (fun vs H Q E h => ?_) (fun cdv A outer s H vs Q E hr h => ?_)
  · obtain ⟨a, ns, t, rfl, _⟩ := h
    rfl
  · obtain ⟨a, ns, t, rfl, hS, h0, h1, hQ⟩ := h
    refine ⟨_, PSs.nox (pss_cons (ps_set (i := 2) scSource.nd rfl (Or.inl rfl) pe_int)
      (Evl.pss_cut (ps_if (pt_cmpR op_lt (pv 1) (pe_callB call_len rfl T.len boot_len (pa_cons (pv 0) pa_nil)) (nomark _)) (pss_one (ps_set (i := 2) scSource.nd rfl (Or.inl rfl) (pe_ix ix_list (pv 0) (pv 1) (fun _ _ => rfl)))) pss_nil)
      (pss_cons (ps_set (i := 3) scSource.nd rfl (Or.inl rfl) (pe_callB (call_max2 rfl) rfl T.max boot_max (pa_cons (pv 2) (pa_cons (pe_op op_sub (pe_un un_neg pe_int) (pv 2)) pa_nil))))
      (pss_cons (ps_set (i := 4) scSource.nd rfl (Or.inl rfl) (pe_op op_mod (pe_callTy call_int1 rfl T.int boot_int (pa_cons (pe_op op_add (pe_op op_add (pe_op op_mul (pe_op op_mod (pe_callTy call_int1 rfl T.int boot_int (pa_cons (pv 3) pa_nil)) pe_int) pe_int) (pe_op op_mul pe_int (pv 1))) pe_int) pa_nil)) pe_int))
      (Evl.pss_cut (ps_if (pt_cmpR op_lt (pv 3) (pe_op op_pow pe_int pe_int) (nomark _)) (pss_one (ps_set (i := 3) scSource.nd rfl (Or.inl rfl) pe_int)) pss_nil)
      (pss_one (ps_ret (pe_lst (pa_cons (pv 3) (pa_cons (pv 4) pa_nil)))))))))), ?_⟩
    refine ⟨fun σ' H' => ∃ c : Int, σ' = [some (.ref a), some (.int t), some (.int c), none, none] ∧ H' = H, ?_, ?_⟩
    · refine ⟨_, rfl, _, rfl, _, _, rfl, Or.inl ⟨_, hS, rfl⟩, _, _, rfl, rfl, _, rfl, ?_⟩
      refine ite2 (fun hlt => ?_) (fun _ => ⟨0, rfl, rfl⟩)
      obtain ⟨c, hc⟩ := atI_int h0 (of_decide_eq_true hlt)
      exact ⟨_, rfl, _, rfl, a, _, t, .int c, rfl, rfl, hS, hc, c, rfl, rfl⟩
    · rintro σ' H' ⟨c, rfl, rfl⟩
      refine ⟨_, rfl, _, rfl, _, rfl, _, _, rfl, rfl, _, _, rfl, ?_⟩
      have hN : 0 ≤ (if -1 - c > c then -1 - c else c) := by split <;> omega
      generalize (if -1 - c > c then -1 - c else c) = N at hN
      refine ⟨_, rfl, Or.inl ⟨_, rfl, _, _, rfl, rfl, (by decide : (0 : Int) < 2147483629), _, _, rfl, rfl, Or.inr ⟨by decide, by decide⟩, _, rfl, _, _, rfl, rfl, Or.inl ⟨by decide, by decide⟩, _, _, rfl, rfl, _, _, rfl, rfl, Or.inl ⟨_, rfl, _, _, rfl, rfl, (by decide : (0 : Int) < 2147483647), ?_⟩⟩⟩
      have hS1 : 0 ≤ (N % 2147483629 * 16807 + 104729 * t + 11) % 2147483647 := Int.emod_nonneg _ (by decide)
      have hS2 : (N % 2147483629 * 16807 + 104729 * t + 11) % 2147483647 < 2147483647 := Int.emod_lt_of_pos _ (by decide)
      refine ⟨fun σ' H1 => ∃ M S : Int, 0 ≤ M ∧ 0 ≤ S ∧ S < 2147483647 ∧ σ' = [some (.ref a), some (.int t), some (.int c), some (.int M), some (.int S)] ∧ H1 = H', ?_, ?_⟩
      · refine ⟨_, rfl, _, _, rfl, rfl, ⟨by decide, by decide, by decide⟩, _, _, rfl, rfl, _, rfl, ?_⟩
        exact ite2 (fun _ => ⟨0, _, Int.le_refl _, hS1, hS2, rfl, rfl⟩) (fun _ => ⟨N, _, hN, hS1, hS2, rfl, rfl⟩)
      · rintro σ' H1 ⟨M, S, hM, q1, q2, rfl, rfl⟩
        exact ⟨_, rfl, _, rfl, two_ok, fun p hp => hQ p M S hp hM q1 q2⟩
theorem ok_draw (F : FnP K "_law_draw" sDraw f fd) (T : Txt K mg) : FnOk P w K mg base CX0 1 f fd ["_law_source_here", "_law_amount"] spDraw := by
  refine F.ok scDraw (fun vs H Q E h => ?_) (fun cdv A outer s H vs Q E hr h => ?_)
  · obtain ⟨p, N, S, m, rfl, _⟩ := h
    rfl
  · obtain ⟨p, N, S, m, rfl, hp, hN, hS1, hS2, hm1, hm2, hQ⟩ := h
    refine ⟨_, PSs.nox (pss_cons (ps_if (pt_cmpR op_gt (pe_ix ix_list (pv 0) pe_int (fun _ _ => rfl)) pe_int (nomark _))
        (pss_cons (ps_set (i := 2) scDraw.nd rfl (Or.inl rfl) (pe_op op_mod (pe_callTy call_int1 rfl T.int boot_int (pa_cons (pe_ix ix_list (pv 0) pe_int (fun _ _ => rfl)) pa_nil)) (pv 1)))
        (pss_cons (ps_asg (pe_op op_fdiv (pe_ix ix_list (pv 0) pe_int (fun _ _ => rfl)) (pv 1)) (pg_sub (pv 0) pe_int set_list))
        (pss_one (ps_ret (pv 2))))) pss_nil)
      (pss_cons (ps_asg (pe_op op_mod (pe_callTy call_int1 rfl T.int boot_int (pa_cons (pe_op op_add (pe_op op_mul (pe_ix ix_list (pv 0) pe_int (fun _ _ => rfl)) pe_int) pe_int) pa_nil)) pe_int) (pg_sub (pv 0) pe_int set_list))
      (pss_one (ps_ret (pe_op op_mod (pe_callTy call_int1 rfl T.int boot_int (pa_cons (pe_op op_fdiv (pe_op op_mod (pe_callTy call_int1 rfl T.int boot_int (pa_cons (pe_op op_mul (pe_ix ix_list (pv 0) pe_int (fun _ _ => rfl)) (pe_ix ix_list (pv 0) pe_int (fun _ _ => rfl))) pa_nil)) pe_int) pe_int) pa_nil)) (pv 1)))))), ?_⟩
    have hL : SqL K H p [.int N, .int S] := SqL.of hp
    refine ⟨_, rfl, p, _, 0, .int N, rfl, rfl, hL, rfl, _, _, rfl, rfl, _, rfl, ?_⟩
    refine ite2 (fun h0 => ?_) (fun _ => ?_)
    · refine ⟨_, rfl, p, _, 0, .int N, rfl, rfl, hL, rfl, Or.inl ⟨_, rfl, _, rfl, _, _, rfl, rfl, hm1, ?_⟩⟩
      refine ⟨_, rfl, p, _, 0, .int N, rfl, rfl, hL, rfl, _, rfl, _, _, rfl, rfl, ⟨hm1, hm2⟩, _, rfl, p, _, 0, 0, rfl, rfl, hp, rfl, _, rfl, ?_⟩
      exact hQ _ _ _ (Int.emod_nonneg _ (Int.ne_of_gt hm1)) (Int.emod_lt_of_pos _ hm1) (Int.ediv_nonneg hN (Int.le_of_lt hm1)) hS1 hS2
    · have e1 : 0 ≤ (S * 48271 + 11) % 2147483647 := Int.emod_nonneg _ (by decide)
      have e2 : (S * 48271 + 11) % 2147483647 < 2147483647 := Int.emod_lt_of_pos _ (by decide)
      refine ⟨_, rfl, p, _, 1, .int S, rfl, rfl, hL, rfl, _, _, rfl, rfl, Or.inr ⟨by decide, by decide⟩, _, _, rfl, rfl, Or.inl ⟨_, rfl, _, _, rfl, rfl, (by decide : (0 : Int) < 2147483647), ?_⟩⟩
      refine ⟨_, rfl, p, _, 1, 1, rfl, rfl, hp, rfl, ?_⟩
      have hL2 : SqL K (upd H p (.lst [.int N, .int ((S * 48271 + 11) % 2147483647)])) p [.int N, .int ((S * 48271 + 11) % 2147483647)] := SqL.of upd_same
      refine ⟨_, rfl, p, _, 1, .int ((S * 48271 + 11) % 2147483647), rfl, rfl, hL2, rfl, _, rfl, p, _, 1, .int ((S * 48271 + 11) % 2147483647), rfl, rfl, hL2, rfl, _, _, rfl, rfl, Or.inl ⟨by omega, by omega⟩, Or.inl ⟨_, rfl, _, _, rfl, rfl, (by decide : (0 : Int) < 2147483629), _, _, rfl, rfl, ⟨by decide, by decide⟩, Or.inl ⟨_, rfl, _, rfl, _, _, rfl, rfl, hm1, ?_⟩⟩⟩
      exact hQ _ _ _ (Int.emod_nonneg _ (Int.ne_of_gt hm1)) (Int.emod_lt_of_pos _ hm1) hN e1 e2

/-! ### the package's functions -/
abbrev sName : Stmt := top 11
abbrev sType : Stmt := top 12
abbrev nName : List Str := ["value", "sign"]
abbrev nVal : List Str := ["value"]
def isNm (z : Str) : Bool := (decide (1 ≤ z.cps.toList.length) && decide (z.cps.toList.length ≤ 8)) && z.cps.toList.all fun c => decide (97 ≤ c) && decide (c ≤ 122)
/-- no text -/
def NoStr (K : PySem.W.Frag) (H : Hp) (x : V) : Prop := ∃ t, TyX K H x (.type t) ∧ kitB t "str" = some false
def spName (K : PySem.W.Frag) (f : Str → Bool) : Sp := fun vs H Q _ => ∃ x, vs = [x] ∧ ((∃ s : Str, x = .str s ∧ s.length ≤ 1000 ∧ PyData.strOk s = true ∧ ∀ H', Evl.Ex H H' → Q (.bl (f s)) H') ∨ (NoStr K H x ∧ Q (.bl false) H))
def lettersS : Str := "abcdefghijklmnopqrstuvwxyz"
theorem letters_iff (c : Nat) : decide (c ∈ lettersS.cps.toList) = (decide (97 ≤ c) && decide (c ≤ 122)) := by
  have e : lettersS.cps.toList = [97, 98, 99, 100, 101, 102, 103, 104, 105, 106, 107, 108, 109, 110, 111, 112, 113, 114, 115, 116, 117, 118, 119, 120, 121, 122] := by decide +kernel
  rw [e, Bool.eq_iff_iff]
  simp only [decide_eq_true_eq, Bool.and_eq_true, List.mem_cons, List.not_mem_nil, or_false]
  omega
theorem scName : FnScope nName ["value"] (defScope sName) := ⟨rfl, rfl, rfl, by decide +kernel, rfl, by decide +kernel, by decide +kernel⟩
theorem boot_isi : bootBuiltins "isinstance" = some (.builtin "isinstance") := by kernel_rfl
theorem boot_all : bootBuiltins "all" = some (.builtin "all") := by kernel_rfl
theorem boot_str : bootBuiltins "str" = some (.type "str") := by kernel_rfl
theorem kit_str : kitB "str" "str" = some true := by decide +kernel
theorem ok_name (F : FnP K "is_name" sName f fd) (T : Txt K mg) {tk : Tok} (gL : mg "LETTERS" = some (.str lettersS tk)) : FnOk P w K mg base CX0 1 f fd ["value"] (spName K isNm) := by
  refine F.ok scName (fun vs H Q E h => ?_) (fun cdv A outer s H vs Q E hr h => ?_)
  · obtain ⟨x, rfl, _⟩ := h
    rfl
  · obtain ⟨x, rfl, h⟩ := h
    refine ⟨_, PSs.nox (pss_cons (ps_if (PW.pt (pw_or (pt_not (pt_val (pe_callB call_isi rfl T.isi boot_isi (pa_cons (pv 0) (pa_cons (pe_bltn rfl T.str boot_str (v := .ty "str") rfl) pa_nil)))))
          (pw_or1 (pt_not (pt_chain op_le op_le pe_int (pe_callB call_len rfl T.len boot_len (pa_cons (pv 0) pa_nil)) pe_int))))) (pss_one (ps_ret pe_bl)) pss_nil)
        (pss_one (ps_ret (pe_callB (cr_all rfl) rfl T.all boot_all (pa_cons (pe_lc (own := [("sign", 1)]) (g := gName 1) (tt := tYes) rfl scName.nd (pi_str (pv 0)) (blkOk_by (N := nName) (sc := defScope sName) (by decide +kernel))
          (fun _ _ _ _ _ => pg_name (i := 1) scName.nd rfl (Or.inl rfl)) (fun _ _ _ _ _ => pts_nil) (fun _ _ _ _ _ => pe_cmpR op_in_sign (pv 1) (pe_glob rfl gL (v := .str lettersS) ⟨tk, rfl⟩) (by rfl))) pa_nil))))), ?_⟩
    rcases h with ⟨z, rfl, hz, hk, hQ⟩ | ⟨⟨t, ty, kt⟩, hQ⟩
    · refine ⟨_, rfl, _, _, _, _, true, rfl, .ty "str", .base (.str z), kit_ty kit_str, _, rfl, ?_⟩
      have hz2 : z.length ≤ sizeLine := Nat.le_trans hz (by rw [sizeLine_eq]; decide)
      have hl : z.length = z.cps.toList.length := by simp [Str.length]
      refine ⟨_, rfl, _, _, rfl, ⟨hz2, rfl⟩, _, _, rfl, rfl, _, rfl, ?_⟩
      refine ite2 (fun h1 => ⟨_, _, rfl, rfl, _, rfl, ?_⟩) (fun h1 => ⟨_, rfl, ?_⟩)
      · have h1' : 1 ≤ z.cps.toList.length := by
          have := of_decide_eq_true h1
          omega
        by_cases h2 : z.cps.toList.length ≤ 8
        · have e2 : decide ((z.length : Int) ≤ 8) = true := decide_eq_true (by omega)
          show (if (!decide ((z.length : Int) ≤ 8)) = true then _ else _)
          rw [e2]
          refine iteF ?_
          refine ⟨_, rfl, _, rfl, fun D hD => ?_⟩
          refine lc_it (walk_str (z := z)) (fun i H' => Evl.Ex H H' ∧ H D = none ∧ H' D = some (.lst ((z.cps.toList.take i).map fun c => .bl (decide (97 ≤ c) && decide (c ≤ 122))))) ⟨Evl.Ex.new hD, hD, upd_same⟩ (fun _ _ _ _ => trivial) ?_ ?_
          · rintro i x H2 H3 hi ⟨e, _, hd⟩ ⟨rfl, c, hc, rfl⟩
            refine ⟨rfl, ?_⟩
            unfold tYes
            dsimp only
            rw [if_pos rfl]
            refine ⟨_, rfl, c, lettersS, rfl, rfl, _, hd, ?_, e.mut hD, hD, ?_⟩
            · rw [List.length_map, List.length_take]
              have : z.cps.toList.length < sizeLine := by rw [sizeLine_eq]; omega
              omega
            · have hc' : z.cps.toList[i]? = some c := by simpa using hc
              have hi' : i < z.cps.toList.length := by simpa using hi
              rw [upd_same, letters_iff, List.take_succ, hc']
              simp
          · rintro H2 ⟨e, _, hd⟩
            refine ⟨D, z.cps.toList.map fun c => decide (97 ≤ c) && decide (c ≤ 122), rfl, ?_, ?_⟩
            · refine SqL.of ?_
              rw [hd, List.take_of_length_le (by simp), List.map_map]
              rfl
            · have q := hQ H2 e
              have e3 : isNm z = (z.cps.toList.map fun c => decide (97 ≤ c) && decide (c ≤ 122)).all id := by
                unfold isNm
                rw [decide_eq_true h1', decide_eq_true h2, List.all_map]
                simp [Function.comp_def]
              rw [e3] at q
              exact q
        · have e2 : decide ((z.length : Int) ≤ 8) = false := decide_eq_false (by omega)
          show (if (!decide ((z.length : Int) ≤ 8)) = true then _ else _)
          rw [e2]
          refine iteT ?_
          have q := hQ H (Evl.Ex.refl H)
          have e3 : isNm z = false := by unfold isNm; rw [decide_eq_false h2]; simp
          rw [e3] at q
          exact q
      · have h1' : ¬ 1 ≤ z.cps.toList.length := by
          intro q
          apply h1
          exact decide_eq_true (by omega)
        have q := hQ H (Evl.Ex.refl H)
        have e3 : isNm z = false := by unfold isNm; rw [decide_eq_false h1']; simp
        rw [e3] at q
        exact q
    · refine ⟨_, rfl, _, _, _, _, false, rfl, .ty "str", ty, kit_ty kt, _, rfl, ?_⟩
      exact hQ

/-! ### kinds -/
def brk : Str := "[]"
def eb (z : Str) : Bool := Txt.endswith z brk
def c2 (z : Str) : Str := cutS z none (some (-2))
def nmOf (z : Str) : Str := if eb z = true then c2 z else z
theorem arr_iff (z : Str) : decide (V.str (cutS z (some (-2)) none) = V.str brk) = eb z := by
  have eb_eq : eb z = (decide (2 ≤ z.cps.toList.length) && decide (z.cps.toList.drop (z.cps.toList.length - 2) = brk.cps.toList)) := by
    have hl : z.length = z.cps.toList.length := by simp [Str.length]
    have hb : brk.length = 2 := by decide +kernel
    unfold eb Txt.endswith
    rw [PySem.StrLaws.subAt_eq, hb, hl, Nat.zero_add]
    by_cases h : 2 ≤ z.cps.toList.length
    · rw [List.take_of_length_le (by rw [List.length_drop]; omega), decide_eq_true h]
      rw [Bool.true_and, Bool.true_and, Bool.beq_eq_decide_eq]
    · rw [decide_eq_false h, Bool.false_and, Bool.false_and]
  have hcut : (cutS z (some (-2)) none).cps.toList = z.cps.toList.drop (z.cps.toList.length - 2) := by
    have hl : z.length = z.cps.toList.length := by simp [Str.length]
    unfold cutS
    show ((z.cps.toList.drop (HT.sIx z.length 0 (some (-2)))).take (HT.sIx z.length z.length none - HT.sIx z.length 0 (some (-2)))).toArray.toList = _
    have e1 : HT.sIx z.length 0 (some (-2)) = z.cps.toList.length - 2 := by
      unfold HT.sIx
      rw [hl]
      show (if (-2 : Int) < 0 then _ else _) = _
      rw [if_pos (by decide)]
      omega
    rw [e1, HT.sIx_none, hl]
    rw [List.take_of_length_le (by rw [List.length_drop]; omega)]
  rw [eb_eq, Bool.eq_iff_iff]
  simp only [decide_eq_true_eq, Bool.and_eq_true]
  constructor
  · intro h
    have h2 : (cutS z (some (-2)) none).cps.toList = brk.cps.toList := by rw [V.str.inj h]
    rw [hcut] at h2
    refine ⟨?_, h2⟩
    have h3 := congrArg List.length h2
    rw [List.length_drop] at h3
    have hb : brk.cps.toList.length = 2 := by decide +kernel
    omega
  · rintro ⟨_, h⟩
    rw [← hcut] at h
    exact congrArg V.str (Str.ext' (Array.toList_inj.mp h))
theorem nm_len (z : Str) (h : z.length ≤ 1000) : (nmOf z).length ≤ 1000 := by
  unfold nmOf
  split
  · exact Nat.le_trans (cutS_length z _ _) h
  · exact h
theorem cut_ok (z : Str) (lo hi : Option Int) (h : PyData.strOk z = true) : PyData.strOk (cutS z lo hi) = true := by
  unfold PyData.strOk at h ⊢
  rw [Array.all_eq_true_iff_forall_mem] at h ⊢
  intro c hc
  refine h c ?_
  have hc' : c ∈ ((z.cps.toList.drop (HT.sIx z.length 0 lo)).take (HT.sIx z.length z.length hi - HT.sIx z.length 0 lo)).toArray := hc
  rw [List.mem_toArray] at hc'
  exact Array.mem_toList_iff.mp (List.mem_of_mem_drop (List.mem_of_mem_take hc'))
theorem nm_ok (z : Str) (h : PyData.strOk z = true) : PyData.strOk (nmOf z) = true := by
  unfold nmOf
  split
  · exact cut_ok z _ _ h
  · exact h
theorem le_line {n : Nat} (h : n ≤ 1000) : n ≤ sizeLine := Nat.le_trans h (by rw [sizeLine_eq]; decide)
theorem scType : FnScope nVal ["value"] (defScope sType) := ⟨rfl, rfl, rfl, by decide +kernel, rfl, by decide +kernel, by decide +kernel⟩
theorem ok_type (F : FnP K "is_type" sType f fd) (T : Txt K mg) {fN : Addr} {fdN : FuncData} (FN : FnP K "is_name" sName fN fdN) (gN : mg "is_name" = some (.ref fN)) {tk : Tok} (gL : mg "LETTERS" = some (.str lettersS tk)) :
    FnOk P w K mg base CX0 2 f fd ["value"] (spName K fun z => isNm (nmOf z)) := by
  have GN : FnOk P w K mg base CX0 1 fN fdN ["value"] (spName K isNm) := ok_name FN T gL
  have bN : Binds K fdN ["value"] [] := FN.bindsN fun _ _ _ _ _ _ us hl => match us, hl with | [_], _ => rfl
  refine F.ok scType (fun vs H Q E h => ?_) (fun cdv A outer s H vs Q E hr h => ?_)
  · obtain ⟨x, rfl, _⟩ := h
    rfl
  · obtain ⟨x, rfl, h⟩ := h
    refine ⟨_, PSs.nox (pss_cons (ps_if (pt_not (pt_val (pe_callB call_isi rfl T.isi boot_isi (pa_cons (pv 0) (pa_cons (pe_bltn rfl T.str boot_str (v := .ty "str") rfl) pa_nil))))) (pss_one (ps_ret pe_bl)) pss_nil)
      (pss_one (ps_ret (pe_call GN hr rfl gN FN.kp bN .nil pass0 (pa_cons (pe_ifExp (pt_val (pe_m1 PySem.F.slot_str_endswith PySem.F.type_str_endswith mt_endswith (pv 0) pe_str)) (pe_slice sl_str (pv 0) po_none (po_some (pe_un un_neg pe_int))) (pv 0)) pa_nil))))), ?_⟩
    rcases h with ⟨z, rfl, hz, hk, hQ⟩ | ⟨⟨t, ty, kt⟩, hQ⟩
    · refine ⟨_, rfl, _, _, _, _, true, rfl, .ty "str", .base (.str z), kit_ty kit_str, _, rfl, ?_⟩
      refine ⟨_, rfl, ⟨_, rfl⟩, _, brk, rfl, rfl, _, rfl, ?_⟩
      have q : nmOf z = if eb z = true then c2 z else z := rfl
      refine ite2 (fun h => ?_) (fun h => ?_)
      · have q2 : nmOf z = c2 z := by rw [q, if_pos (show eb z = true from h)]
        refine ⟨_, rfl, _, rfl, _, rfl, z, rfl, le_line hz, _, rfl, .inl ⟨_, rfl, Nat.le_trans (cutS_length z _ _) hz, cut_ok z _ _ hk, fun H' e => ?_⟩⟩
        have q3 : Q (.bl (isNm (nmOf z))) H' := hQ H' e
        rw [q2] at q3
        exact q3
      · have q2 : nmOf z = z := by rw [q, if_neg (show ¬ eb z = true from h)]
        refine ⟨_, rfl, _, rfl, .inl ⟨_, rfl, hz, hk, fun H' e => ?_⟩⟩
        have q3 : Q (.bl (isNm (nmOf z))) H' := hQ H' e
        rw [q2] at q3
        exact q3
    · refine ⟨_, rfl, _, _, _, _, false, rfl, .ty "str", ty, kit_ty kt, _, rfl, ?_⟩
      exact hQ

/-! ### the law's own reading of a name -/
abbrev nLName : List Str := ["_law_thing", "_law_sign"]
theorem strs_dp {K : PySem.W.Frag} {H : Hp} : ∀ l : List Nat, DpAll K H (l.map fun c => V.str ⟨#[c]⟩) (l.map fun c => PyData.str ⟨#[c]⟩)
  | [] => .nil
  | c :: l => .cons (.str _) (strs_dp l)
theorem canLay_strs : ∀ l : List Nat, (∀ c ∈ l, c < 0x110000) → PyData.canLayAll0 (l.map fun c => PyData.str ⟨#[c]⟩) = true
  | [], _ => rfl
  | c :: l, h => by
    show (PyData.strOk ⟨#[c]⟩ && PyData.canLayAll0 (l.map fun c => PyData.str ⟨#[c]⟩)) = true
    rw [canLay_strs l fun d hd => h d (List.mem_cons_of_mem _ hd), Bool.and_true]
    have hc := h c List.mem_cons_self
    simp [PyData.strOk, hc]
theorem depth_strs : ∀ l : List Nat, PyData.depthAll (l.map fun c => PyData.str ⟨#[c]⟩) = 0
  | [] => rfl
  | c :: l => by
    have ih := depth_strs l
    simp only [List.map_cons, PyData.depthAll, PyData.depth, ih]
    try rfl
theorem shaped_strs (l : List Nat) (h : ∀ c ∈ l, c < 0x110000) : SeqAt.shaped (.list (l.map fun c => PyData.str ⟨#[c]⟩)) = true := by
  unfold SeqAt.shaped
  rw [show PyData.canLay0 (.list (l.map fun c => PyData.str ⟨#[c]⟩)) = PyData.canLayAll0 (l.map fun c => PyData.str ⟨#[c]⟩) from by unfold PyData.canLay0; rfl, canLay_strs l h]
  simp [PyData.depth, depth_strs]
theorem sgn_le (c : Nat) : decide (([c] : List Nat) < [97]) = decide (c < 97) := by
  rw [Bool.eq_iff_iff, decide_eq_true_eq, decide_eq_true_eq]
  constructor
  · intro h
    cases h with
    | rel h => exact h
    | cons h => cases h
  · exact fun h => .rel h
theorem sgn_ge (c : Nat) : decide (([122] : List Nat) < [c]) = decide (122 < c) := by
  rw [Bool.eq_iff_iff, decide_eq_true_eq, decide_eq_true_eq]
  constructor
  · intro h
    cases h with
    | rel h => exact h
    | cons h => cases h
  · exact fun h => .rel h
def okC (c : Nat) : Bool := decide (97 ≤ c) && decide (c ≤ 122)
end
end K50
set_option Elab.async false
set_option linter.all false
set_option maxRecDepth 100000
set_option maxHeartbeats 0
namespace K50
open PySem PySem.Spec PyProof.Rows L2
/-! ### things as data -/
def tyD : PyData → String
  | .none => "NoneType"
  | .bool _ => "bool"
  | .int _ => "int"
  | .str _ => "str"
  | .list _ => "list"
  | .tuple _ => "tuple"
  | .dict _ => "dict"
theorem ty_of {K : PySem.W.Frag} {H : Hp} {x : V} {d : PyData} (h : EX2.Dq H x d) : TyX K H x (.type (tyD d)) := by
  cases h with
  | non => exact .base .non
  | bl b => exact .base (.bl b)
  | int i => exact .base (.int i)
  | str z => exact .base (.str z)
  | lst e _ => exact .base (.lst e)
  | tup e _ => exact .base (.tup e)
  | dk e _ => exact .base (.dK e)
def isIntD : PyData → Bool
  | .int _ => true
  | _ => false
def isStrD : PyData → Bool
  | .str _ => true
  | _ => false
def isTupD : PyData → Bool
  | .tuple _ => true
  | _ => false
def isBoolD : PyData → Bool
  | .bool _ => true
  | _ => false
theorem kit_int (d : PyData) : kitB (tyD d) "int" = some (isIntD d || isBoolD d) := match d with
  | .none => (by decide +kernel : kitB "NoneType" "int" = some false)
  | .bool _ => (by decide +kernel : kitB "bool" "int" = some true)
  | .int _ => (by decide +kernel : kitB "int" "int" = some true)
  | .str _ => (by decide +kernel : kitB "str" "int" = some false)
  | .list _ => (by decide +kernel : kitB "list" "int" = some false)
  | .tuple _ => (by decide +kernel : kitB "tuple" "int" = some false)
  | .dict _ => (by decide +kernel : kitB "dict" "int" = some false)
theorem kit_bool (d : PyData) : kitB (tyD d) "bool" = some (isBoolD d) := match d with
  | .none => (by decide +kernel : kitB "NoneType" "bool" = some false)
  | .bool _ => (by decide +kernel : kitB "bool" "bool" = some true)
  | .int _ => (by decide +kernel : kitB "int" "bool" = some false)
  | .str _ => (by decide +kernel : kitB "str" "bool" = some false)
  | .list _ => (by decide +kernel : kitB "list" "bool" = some false)
  | .tuple _ => (by decide +kernel : kitB "tuple" "bool" = some false)
  | .dict _ => (by decide +kernel : kitB "dict" "bool" = some false)
theorem kit_strD (d : PyData) : kitB (tyD d) "str" = some (isStrD d) := match d with
  | .none => (by decide +kernel : kitB "NoneType" "str" = some false)
  | .bool _ => (by decide +kernel : kitB "bool" "str" = some false)
  | .int _ => (by decide +kernel : kitB "int" "str" = some false)
  | .str _ => (by decide +kernel : kitB "str" "str" = some true)
  | .list _ => (by decide +kernel : kitB "list" "str" = some false)
  | .tuple _ => (by decide +kernel : kitB "tuple" "str" = some false)
  | .dict _ => (by decide +kernel : kitB "dict" "str" = some false)
theorem kit_tupD (d : PyData) : kitB (tyD d) "tuple" = some (isTupD d) := match d with
  | .none => (by decide +kernel : kitB "NoneType" "tuple" = some false)
  | .bool _ => (by decide +kernel : kitB "bool" "tuple" = some false)
  | .int _ => (by decide +kernel : kitB "int" "tuple" = some false)
  | .str _ => (by decide +kernel : kitB "str" "tuple" = some false)
  | .list _ => (by decide +kernel : kitB "list" "tuple" = some false)
  | .tuple _ => (by decide +kernel : kitB "tuple" "tuple" = some true)
  | .dict _ => (by decide +kernel : kitB "dict" "tuple" = some false)
def isLstD : PyData → Bool
  | .list _ => true
  | _ => false
theorem kit_lstD (d : PyData) : kitB (tyD d) "list" = some (isLstD d) := match d with
  | .none => (by decide +kernel : kitB "NoneType" "list" = some false)
  | .bool _ => (by decide +kernel : kitB "bool" "list" = some false)
  | .int _ => (by decide +kernel : kitB "int" "list" = some false)
  | .str _ => (by decide +kernel : kitB "str" "list" = some false)
  | .list _ => (by decide +kernel : kitB "list" "list" = some true)
  | .tuple _ => (by decide +kernel : kitB "tuple" "list" = some false)
  | .dict _ => (by decide +kernel : kitB "dict" "list" = some false)
-- texts in it are short and of true signs
mutual
def okD : PyData → Bool
  | .str z => decide (z.length ≤ 1000) && PyData.strOk z
  | .list xs => okAll xs
  | .tuple xs => okAll xs
  | _ => true
def okAll : List PyData → Bool
  | [] => true
  | d :: ds => okD d && okAll ds
end
def inR (lo hi : Int) : PyData → Bool
  | .int i => decide (lo ≤ i) && decide (i ≤ hi)
  | _ => false
def nameD : PyData → Bool
  | .str z => isNm z
  | _ => false
def typeD : PyData → Bool
  | .str z => isNm (nmOf z)
  | _ => false
/-- a question about one thing, answered alike in every larger heap -/
def spD (f : PyData → Bool) : Sp := fun vs H Q _ => ∃ (x : V) (d : PyData), vs = [x] ∧ EX2.Dq H x d ∧ okD d = true ∧ ∀ H', Evl.Ex H H' → Q (.bl (f d)) H'
theorem name_of {K : PySem.W.Frag} {g : Str → Bool} {f : PyData → Bool} (hs : ∀ z, f (.str z) = g z) (hn : ∀ d, isStrD d = false → f d = false) : ∀ vs H Q E, spD f vs H Q E → spName K g vs H Q E := by
  rintro vs H Q E ⟨x, d, rfl, hd, hk, hQ⟩
  refine ⟨x, rfl, ?_⟩
  cases h : isStrD d with
  | true =>
    cases d with
    | str z =>
      cases hd
      simp only [okD, Bool.and_eq_true, decide_eq_true_eq] at hk
      exact .inl ⟨z, rfl, hk.1, hk.2, fun H' e => by rw [← hs]; exact hQ H' e⟩
    | _ => cases h
  | false =>
    refine .inr ⟨⟨_, ty_of hd, (kit_strD d).trans (by rw [h])⟩, ?_⟩
    have q := hQ H (Evl.Ex.refl H)
    rw [hn d h] at q
    exact q
theorem spD_len {f : PyData → Bool} {p : Str} : ∀ vs H Q E, spD f vs H Q E → vs.length = [p].length := by
  rintro vs H Q E ⟨x, d, rfl, _⟩
  rfl
section
variable {P : Program} {w : World} {K : PySem.W.Frag} {mg : Str → Option Value} {base : Heap} {f : Addr} {fd : FuncData}
theorem boot_bool : bootBuiltins "bool" = some (.type "bool") := by kernel_rfl
theorem boot_tuple : bootBuiltins "tuple" = some (.type "tuple") := by kernel_rfl
theorem boot_list : bootBuiltins "list" = some (.type "list") := by kernel_rfl
theorem boot_any : bootBuiltins "any" = some (.builtin "any") := by kernel_rfl
abbrev sInteger : Stmt := top 9
abbrev sRange : Stmt := top 10
abbrev nObj : List Str := ["obj"]
theorem scInteger : FnScope nObj ["obj"] (defScope sInteger) := ⟨rfl, rfl, rfl, by decide +kernel, rfl, by decide +kernel, by decide +kernel⟩
theorem ok_integer (F : FnP K "is_integer" sInteger f fd) (T : Txt K mg) : FnOk P w K mg base CX0 1 f fd ["obj"] (spD isIntD) := by
  refine F.ok scInteger spD_len (fun cdv A outer s H vs Q E hr h => ?_)
  obtain ⟨x, d, rfl, hd, hk, hQ⟩ := h
  refine ⟨_, PSs.nox (pss_one (ps_ret (pe_and (pe_callB call_isi rfl T.isi boot_isi (pa_cons (pv 0) (pa_cons (pe_bltn rfl T.int boot_int (v := .ty "int") rfl) pa_nil)))
    (pe_one (pe_not (pe_callB call_isi rfl T.isi boot_isi (pa_cons (pv 0) (pa_cons (pe_bltn rfl T.bl boot_bool (v := .ty "bool") rfl) pa_nil)))))))), ?_⟩
  refine ⟨_, rfl, _, _, _, _, _, rfl, .ty "int", ty_of hd, kit_ty (kit_int d), _, rfl, ?_⟩
  have q := hQ H (Evl.Ex.refl H)
  refine ite2 (fun h => ?_) (fun h => ?_)
  · refine ⟨_, rfl, _, _, _, _, _, rfl, .ty "bool", ty_of hd, kit_ty (kit_bool d), _, rfl, ?_⟩
    cases d <;> first | exact q | exact absurd h (by simp [isIntD, isBoolD])
  · cases d <;> first | exact q | exact absurd (by simp [isIntD, isBoolD]) h
def spRange : Sp := fun vs H Q _ => ∃ (x : V) (d : PyData) (lo hi : Int), vs = [x, .int lo, .int hi] ∧ EX2.Dq H x d ∧ okD d = true ∧ ∀ H', Evl.Ex H H' → Q (.bl (inR lo hi d)) H'
abbrev nRange : List Str := ["obj", "least", "most"]
theorem scRange : FnScope nRange ["obj", "least", "most"] (defScope sRange) := ⟨rfl, rfl, rfl, by decide +kernel, rfl, by decide +kernel, by decide +kernel⟩
theorem ok_range (F : FnP K "is_in_range" sRange f fd) {fI : Addr} {fdI : FuncData} (GI : FnOk P w K mg base CX0 1 fI fdI ["obj"] (spD isIntD)) (gI : mg "is_integer" = some (.ref fI)) (FI : FnP K "is_integer" sInteger fI fdI) : FnOk P w K mg base CX0 2 f fd ["obj", "least", "most"] spRange := by
  have bI : Binds K fdI ["obj"] [] := FI.bindsN fun _ _ _ _ _ _ us hl => match us, hl with | [_], _ => rfl
  refine F.ok scRange (fun vs H Q E h => ?_) (fun cdv A outer s H vs Q E hr h => ?_)
  · obtain ⟨x, d, lo, hi, rfl, _⟩ := h
    rfl
  · obtain ⟨x, d, lo, hi, rfl, hd, hk, hQ⟩ := h
    refine ⟨_, PSs.nox (pss_one (ps_ret (pe_and (pe_call GI hr rfl gI FI.kp bI .nil pass0 (pa_cons (pv 0) pa_nil)) (pe_one (pe_chain op_le op_le (pv 1) (pv 0) (pv 2)))))), ?_⟩
    refine ⟨_, rfl, x, d, rfl, hd, hk, fun H' e => ⟨_, rfl, ?_⟩⟩
    have q := hQ H' e
    refine ite2 (fun h => ?_) (fun h => ?_)
    · cases d with
      | int i =>
        cases hd
        refine ⟨_, rfl, _, rfl, _, _, rfl, rfl, _, rfl, ?_⟩
        have q2 : Q (.bl (decide (lo ≤ i) && decide (i ≤ hi))) H' := q
        refine ite2 (fun h1 => ?_) (fun h1 => ?_)
        · refine ⟨_, rfl, _, _, rfl, rfl, ?_⟩
          rw [h1, Bool.true_and] at q2
          exact q2
        · rw [show decide (lo ≤ i) = false from by simpa using h1, Bool.false_and] at q2
          exact q2
      | _ => cases h
    · cases d <;> first | exact q | exact absurd rfl h
end
end K50
set_option Elab.async false
set_option linter.all false
set_option maxRecDepth 100000
set_option maxHeartbeats 4000000
/-! data in the heap: helpers; comprehensions whose elements grow the heap alone; sources -/
namespace EX2
open PySem PySem.Spec PyProof.Rows L2
section
variable {H H' : Hp}
theorem DqAll.get {xs : List V} {ds : List PyData} (h : DqAll H xs ds) : ∀ {i : Nat} {x : V}, xs[i]? = some x → ∃ d, ds[i]? = some d ∧ Dq H x d := by
  induction xs generalizing ds with
  | nil => intro i x e; simp at e
  | cons y ys ih =>
    cases h with
    | cons h t =>
      intro i x e
      cases i with
      | zero => simp only [List.getElem?_cons_zero, Option.some.injEq] at e ⊢; subst e; exact ⟨_, rfl, h⟩
      | succ i => simp only [List.getElem?_cons_succ] at e ⊢; exact ih t e
theorem DqAll.getD {xs : List V} {ds : List PyData} (h : DqAll H xs ds) : ∀ {i : Nat} {d : PyData}, ds[i]? = some d → ∃ x, xs[i]? = some x ∧ Dq H x d := by
  induction xs generalizing ds with
  | nil => cases h; intro i x e; simp at e
  | cons y ys ih =>
    cases h with
    | cons h t =>
      intro i x e
      cases i with
      | zero => simp only [List.getElem?_cons_zero, Option.some.injEq] at e ⊢; subst e; exact ⟨_, rfl, h⟩
      | succ i => simp only [List.getElem?_cons_succ] at e ⊢; exact ih t e
theorem DqAll.drop {xs : List V} {ds : List PyData} (h : DqAll H xs ds) : ∀ (n : Nat), DqAll H (xs.drop n) (ds.drop n) := by
  induction xs generalizing ds with
  | nil => cases h; intro n; simp; exact .nil
  | cons y ys ih =>
    cases h with
    | cons h t =>
      intro n
      cases n with
      | zero => exact .cons h t
      | succ n => exact ih t n
theorem DqAll.take {xs : List V} {ds : List PyData} (h : DqAll H xs ds) : ∀ (n : Nat), DqAll H (xs.take n) (ds.take n) := by
  induction xs generalizing ds with
  | nil => cases h; intro n; simp; exact .nil
  | cons y ys ih =>
    cases h with
    | cons h t =>
      intro n
      cases n with
      | zero => exact .nil
      | succ n => exact .cons h (ih t n)
theorem DqAll.app {xs ys : List V} {ds es : List PyData} (h : DqAll H xs ds) (g : DqAll H ys es) : DqAll H (xs ++ ys) (ds ++ es) := by
  induction xs generalizing ds with
  | nil => cases h; exact g
  | cons y zs ih => cases h with
    | cons h t => exact .cons h (ih t)
theorem Dq.tupI {x : V} {ds : List PyData} (h : Dq H x (.tuple ds)) : ∃ a xs, x = .ref a ∧ H a = some (.tup xs) ∧ DqAll H xs ds := by
  cases h with
  | tup e h => exact ⟨_, _, rfl, e, h⟩
theorem Dq.lstI {x : V} {ds : List PyData} (h : Dq H x (.list ds)) : ∃ a xs, x = .ref a ∧ H a = some (.lst xs) ∧ DqAll H xs ds := by
  cases h with
  | lst e h => exact ⟨_, _, rfl, e, h⟩
theorem Dq.strI {x : V} {z : Str} (h : Dq H x (.str z)) : x = .str z := by cases h; rfl
theorem Dq.intI {x : V} {z : Int} (h : Dq H x (.int z)) : x = .int z := by cases h; rfl
end
section
variable {J : It} {n : Nat} {G : Hp → Prop} {Y : Nat → Hp → V → Hp → Prop}
/-- a comprehension whose j-th element is v j, the heap growing -/
theorem lc_map (w : Walk J n G Y) {g : TG} {te : TE} {vs : List Nat} {σ : L2.St} {H1 : Hp} {D : Addr} {Qd : Hp → Prop} (hD : H1 D = none) (hG : ∀ H', Evl.Ex H1 H' → G H') (v : Nat → V) (hz : n ≤ 100000)
    (hY : ∀ j H2 x H3, j < n → Evl.Ex H1 H2 → Y j H2 x H3 → Evl.Ex H2 H3)
    (hs : ∀ j x H2 H3, j < n → Evl.Ex H1 H2 → Evl.Ex H1 H3 → Y j H2 x H3 → ∀ Qt : V → Hp → Prop, (∀ H4, Evl.Ex H3 H4 → Qt (v j) H4) → g x (wipe σ vs) H3 fun σ2 H4 => wipe σ2 vs = wipe σ vs ∧ te σ2 H4 Qt)
    (hd : ∀ H', Evl.Ex H1 H' → H' D = some (.lst ((List.range n).map v)) → Qd H') :
    ∃ W : Nat → Nat → Hp → Prop, (∃ m, W 0 m (upd H1 D (.lst []))) ∧ ∀ i m H, W i m H →
      (J.stop i H ∧ Qd H) ∨ (J.go i H ∧ ∃ Nx : Hp → Prop, (∀ H', Nx H' → ∃ m', m' < m ∧ W (i + 1) m' H') ∧ ∀ x H', J.yld i H x H' → g x (wipe σ vs) H' fun σ2 H2 => wipe σ2 vs = wipe σ vs ∧ tYes σ2 H2 fun b H3 =>
        if b = true then te σ2 H3 fun y H4 => ∃ acc, H4 D = some (.lst acc) ∧ acc.length < sizeLine ∧ Nx (upd H4 D (.lst (acc ++ [y]))) else Nx H3) := by
  refine lc_it w (fun j H' => Evl.Ex H1 H' ∧ H' D = some (.lst ((List.range j).map v))) ⟨Evl.Ex.new hD, upd_same⟩ (fun i H hi p => hG H p.1) ?_ (fun H p => hd H p.1 p.2)
  rintro j x H2 H3 hj ⟨e, hd2⟩ hy
  have e3 := hY j H2 x H3 hj e hy
  have q := hs j x H2 H3 hj e (e.trans e3) hy (fun y H4 => ∃ acc, H4 D = some (.lst acc) ∧ acc.length < sizeLine ∧ (Evl.Ex H1 (upd H4 D (.lst (acc ++ [y]))) ∧ (upd H4 D (.lst (acc ++ [y]))) D = some (.lst ((List.range (j + 1)).map v)))) ?_
  · simp only [tYes, if_true]
    exact q
  · intro H4 e4
    refine ⟨_, e4 _ _ (e3 _ _ hd2), ?_, ((e.trans e3).trans e4).mut hD, ?_⟩
    · rw [List.length_map, List.length_range]
      exact Evl.sz_lt (by omega)
    · rw [upd_same, List.range_succ, List.map_append]
      rfl
end
theorem map_range_get {α β : Type} (xs : List α) (f : α → β) (g : Nat → β) (h : ∀ i x, xs[i]? = some x → g i = f x) : (List.range xs.length).map g = xs.map f := by
  apply List.ext_getElem?
  intro i
  rw [List.getElem?_map, List.getElem?_map]
  by_cases hi : i < xs.length
  · rw [List.getElem?_eq_getElem hi]
    simp [hi, h i xs[i] (List.getElem?_eq_getElem hi)]
  · simp [hi]
section
variable {X : Cx}
/-- a tuple == () -/
theorem op_eq_tup0 (hu : X.A.units < cLine) : OpR X (compareOp .Eq) (fun x y H Q => ∃ (a b : Addr) (xs : List V), x = .ref a ∧ y = .ref b ∧ SqT X.K H a xs ∧ SqT X.K H b [] ∧ Q (.bl xs.isEmpty) H) := by
  intro pins s σ H x y v u Q I rx ry h
  obtain ⟨a, b, xs, rfl, rfl, ha, hb, q⟩ := h
  cases rx
  cases ry
  obtain ⟨its, rv, ht, hz⟩ := I.tuple ha
  obtain ⟨its2, rv2, ht2, hz2⟩ := I.tuple hb
  have l1 := rv.length
  have l2 := rv2.length
  have e2 : its2 = [] := List.length_eq_zero_iff.mp (by simpa using l2.symm)
  subst e2
  refine SeqAt.eq_tupleAt (e := fun _ => true) ht ht2 hu (fun j h1 h2 => absurd h2 (by simp)) ⟨.bl _, H, I, rfl, ?_⟩
  have e3 : ((List.range (min its.toArray.size ([] : List Value).toArray.size)).all (fun _ => true) && its.toArray.size == ([] : List Value).toArray.size) = xs.isEmpty := by
    cases xs with
    | nil => simp at l1; simp [← l1]
    | cons x xs => cases its with
      | nil => simp at l1
      | cons => simp
  rw [e3]
  exact q
end
/-! ### a source at p -/
/-- the heap but for p -/
def rm (p : Addr) (H : Hp) : Hp := fun a => if a = p then none else H a
theorem rm_ne {p a : Addr} {H : Hp} (h : a ≠ p) : rm p H a = H a := by unfold rm; rw [if_neg h]
theorem rm_ex {p : Addr} {H : Hp} : Evl.Ex (rm p H) H := fun a o h => by
  unfold rm at h
  split at h
  · cases h
  · exact h
theorem rm_ne_of {p a : Addr} {H : Hp} {o : HO} (h : rm p H a = some o) : a ≠ p := by
  intro e
  subst e
  unfold rm at h
  rw [if_pos rfl] at h
  cases h
def Sc (p : Addr) (H : Hp) : Prop := ∃ N S : Int, H p = some (.lst [.int N, .int S]) ∧ 0 ≤ N ∧ 0 ≤ S ∧ S < 2147483647
/-- what stood stands, the source at p aside -/
structure Lx (p : Addr) (H H' : Hp) : Prop where
  ex : Evl.Ex (rm p H) (rm p H')
  sc : Sc p H'
theorem Lx.trans {p : Addr} {H H1 H2 : Hp} (a : Lx p H H1) (b : Lx p H1 H2) : Lx p H H2 := ⟨a.ex.trans b.ex, b.sc⟩
theorem Lx.refl {p : Addr} {H : Hp} (s : Sc p H) : Lx p H H := ⟨.refl _, s⟩
theorem ex_rm {p : Addr} {H H' : Hp} (e : Evl.Ex H H') : Evl.Ex (rm p H) (rm p H') := fun a o h => by
  have n := rm_ne_of h
  rw [rm_ne n] at h ⊢
  exact e a o h
theorem Sc.ex {p : Addr} {H H' : Hp} (s : Sc p H) (e : Evl.Ex H H') : Sc p H' := by
  obtain ⟨N, S, h, r⟩ := s
  exact ⟨N, S, e _ _ h, r⟩
theorem Lx.of {p : Addr} {H H' : Hp} (s : Sc p H) (e : Evl.Ex H H') : Lx p H H' := ⟨ex_rm e, s.ex e⟩
theorem Lx.then {p : Addr} {H H1 H2 : Hp} (a : Lx p H H1) (e : Evl.Ex H1 H2) : Lx p H H2 := a.trans (.of a.sc e)
theorem Sc.ne {p q : Addr} {H : Hp} (s : Sc p H) (h : H q = none) : q ≠ p := by
  rintro rfl
  obtain ⟨N, S, e, _⟩ := s
  rw [h] at e
  cases e
/-- something new, then an old list that grows: D stood nowhere in H -/
theorem Lx.mut {p D : Addr} {H H' : Hp} {o : HO} (a : Lx p H H') (hp : D ≠ p) (h : H D = none) : Lx p H (upd H' D o) := by
  refine ⟨fun b u e => ?_, ?_⟩
  · have n := rm_ne_of e
    have e2 := a.ex b u e
    rw [rm_ne n] at e e2 ⊢
    by_cases hb : b = D
    · subst hb
      rw [h] at e
      cases e
    · rw [upd_ne hb]
      exact e2
  · obtain ⟨N, S, e, r⟩ := a.sc
    exact ⟨N, S, by rw [upd_ne hp.symm]; exact e, r⟩
theorem Lx.at {p a : Addr} {H H' : Hp} {o : HO} (l : Lx p H H') (h : H a = some o) (n : a ≠ p) : H' a = some o := by
  have := l.ex a o (by rw [rm_ne n]; exact h)
  rw [rm_ne n] at this
  exact this
/-- data that stands apart from the source -/
abbrev Dz (p : Addr) (H : Hp) (x : V) (d : PyData) : Prop := Dq (rm p H) x d
abbrev DzAll (p : Addr) (H : Hp) (xs : List V) (ds : List PyData) : Prop := DqAll (rm p H) xs ds
theorem Dz.q {p : Addr} {H : Hp} {x : V} {d : PyData} (h : Dz p H x d) : Dq H x d := Dq.ext rm_ex h
theorem Dz.lx {p : Addr} {H H' : Hp} {x : V} {d : PyData} (h : Dz p H x d) (l : Lx p H H') : Dz p H' x d := Dq.ext l.ex h
theorem DzAll.lx {p : Addr} {H H' : Hp} {x : List V} {d : List PyData} (h : DzAll p H x d) (l : Lx p H H') : DzAll p H' x d := DqAll.ext l.ex h
theorem Dz.tupN {p a : Addr} {H : Hp} {xs : List V} {ds : List PyData} (s : Sc p H) (ha : H a = none) (h : DzAll p H xs ds) : Dz p (upd H a (.tup xs)) (.ref a) (.tuple ds) := by
  have n := s.ne ha
  refine .tup (xs := xs) (by rw [rm_ne n]; exact upd_same) (DqAll.ext (ex_rm (Evl.Ex.new ha)) h)
theorem Dz.lstN {p a : Addr} {H : Hp} {xs : List V} {ds : List PyData} (s : Sc p H) (ha : H a = none) (h : DzAll p H xs ds) : Dz p (upd H a (.lst xs)) (.ref a) (.list ds) := by
  have n := s.ne ha
  refine .lst (xs := xs) (by rw [rm_ne n]; exact upd_same) (DqAll.ext (ex_rm (Evl.Ex.new ha)) h)
end EX2
set_option Elab.async false
set_option linter.all false
set_option maxRecDepth 100000
set_option maxHeartbeats 0
namespace K50
open PySem PySem.Spec PyProof.Rows L2
abbrev ssequence : Stmt := top 13
abbrev sfits : Stmt := top 19
abbrev sis_instruction : Stmt := top 20
abbrev sdrawers : Stmt := top 21
abbrev stargets : Stmt := top 22
abbrev scode : Stmt := top 23
abbrev ssize : Stmt := top 24
abbrev spick : Stmt := top 48
/-- what the program's top has left -/
structure Defs (w : World) (K : PySem.W.Frag) (mg : Str → Option Value) : Prop where
  t : Txt K mg
  letters : ∃ tk, mg "LETTERS" = some (.str lettersS tk)
  code40 : ∃ tk, mg "MOST_CODE" = some (.int 40 tk)
  size10 : ∃ tk, mg "MOST_SIZE" = some (.int 10 tk)
  params4 : ∃ tk, mg "MOST_PARAMS" = some (.int 4 tk)
  forms : mg "FORMS" = some (.ref (He.ga K "FORMS"))
  kd : ∃ es n, KDict K w (He.ga K "FORMS") es n
  look : ∀ z, (∃ y t, K50.forms.lookup z = some y ∧ PySem.W.nsIn K (He.ga K "FORMS") z = some (some (.str y t))) ∨ (K50.forms.lookup z = none ∧ PySem.W.nsIn K (He.ga K "FORMS") z = some none)
  is_integer : ∃ f fd, mg "is_integer" = some (.ref f) ∧ FnP K "is_integer" sInteger f fd
  is_in_range : ∃ f fd, mg "is_in_range" = some (.ref f) ∧ FnP K "is_in_range" sRange f fd
  is_name : ∃ f fd, mg "is_name" = some (.ref f) ∧ FnP K "is_name" sName f fd
  is_type : ∃ f fd, mg "is_type" = some (.ref f) ∧ FnP K "is_type" sType f fd
  is_sequence : ∃ f fd, mg "is_sequence" = some (.ref f) ∧ FnP K "is_sequence" ssequence f fd
  fits : ∃ f fd, mg "fits" = some (.ref f) ∧ FnP K "fits" sfits f fd
  is_instruction : ∃ f fd, mg "is_instruction" = some (.ref f) ∧ FnP K "is_instruction" sis_instruction f fd
  drawers_in : ∃ f fd, mg "drawers_in" = some (.ref f) ∧ FnP K "drawers_in" sdrawers f fd
  targets_in : ∃ f fd, mg "targets_in" = some (.ref f) ∧ FnP K "targets_in" stargets f fd
  is_code : ∃ f fd, mg "is_code" = some (.ref f) ∧ FnP K "is_code" scode f fd
  is_size : ∃ f fd, mg "is_size" = some (.ref f) ∧ FnP K "is_size" ssize f fd
  source : ∃ f fd, mg "_law_source" = some (.ref f) ∧ FnP K "_law_source" sSource f fd
  draw : ∃ f fd, mg "_law_draw" = some (.ref f) ∧ FnP K "_law_draw" sDraw f fd
  pick : ∃ f fd, mg "_law_pick" = some (.ref f) ∧ FnP K "_law_pick" spick f fd
section
variable {P : Program} {w : World} {K : PySem.W.Frag} {mg : Str → Option Value} {base : Heap} {f : Addr} {fd : FuncData}
theorem okD_name (D : Defs w K mg) {f : Addr} {fd : FuncData} (F : FnP K "is_name" sName f fd) : FnOk P w K mg base CX0 1 f fd ["value"] (spD nameD) := by
  obtain ⟨tk, gL⟩ := D.letters
  exact (ok_name F D.t gL).imp (name_of (f := nameD) (fun _ => rfl) fun d h => by cases d <;> first | rfl | cases h)
theorem okD_type (D : Defs w K mg) {f : Addr} {fd : FuncData} (F : FnP K "is_type" sType f fd) : FnOk P w K mg base CX0 2 f fd ["value"] (spD typeD) := by
  obtain ⟨tk, gL⟩ := D.letters
  obtain ⟨fN, fdN, gN, FN⟩ := D.is_name
  exact (ok_type F D.t FN gN gL).imp (name_of (f := typeD) (fun _ => rfl) fun d h => by cases d <;> first | rfl | cases h)
theorem okD_range (D : Defs w K mg) {f : Addr} {fd : FuncData} (F : FnP K "is_in_range" sRange f fd) : FnOk P w K mg base CX0 2 f fd ["obj", "least", "most"] spRange := by
  obtain ⟨fI, fdI, gI, FI⟩ := D.is_integer
  exact ok_range F (ok_integer FI D.t) gI FI
/-! ### fits -/
def tupAll (g : PyData → Bool) : PyData → Bool
  | .tuple ds => decide (ds.length ≤ 4) && ds.all g
  | _ => false
def elC (c : Nat) (e : PyData) : Bool := if c = 121 then typeD e else inR 0 9 e
def fitsC (c : Nat) (d : PyData) : Bool :=
  if c = 114 ∨ c = 110 then inR 0 9 d else if c = 106 then inR 0 39 d else if c = 99 ∨ c = 102 then nameD d else if c = 116 then typeD d else
  tupAll (elC c) d
def spFits : Sp := fun vs H Q _ => ∃ (c : Nat) (x : V) (d : PyData), vs = [.str ⟨#[c]⟩, x] ∧ EX2.Dq H x d ∧ okD d = true ∧ ∀ H', Evl.Ex H H' → Q (.bl (fitsC c d)) H'
theorem sg_iff {c k : Nat} {z : Str} (h : z = ⟨#[k]⟩) : ((⟨#[c]⟩ : Str) = z) ↔ c = k := by
  subst h
  constructor
  · intro e
    have := congrArg (fun s : Str => s.cps.toList) e
    simpa using this
  · rintro rfl; rfl
theorem sg_eq {c k : Nat} {z : Str} (h : z = ⟨#[k]⟩) : decide (V.str ⟨#[c]⟩ = V.str z) = decide (c = k) :=
  decide_eq_decide.mpr ⟨fun e => (sg_iff h).mp (V.str.inj e), fun e => by rw [(sg_iff h).mpr e]⟩
theorem sg_in {c a b : Nat} {x y : Str} (hx : x = ⟨#[a]⟩) (hy : y = ⟨#[b]⟩) : inV (.str ⟨#[c]⟩) [.str x, .str y] = decide (c = a ∨ c = b) := by
  have h1 : (x == (⟨#[c]⟩ : Str)) = decide (c = a) := by
    rw [Bool.eq_iff_iff, beq_iff_eq, decide_eq_true_eq, eq_comm, sg_iff hx]
  have h2 : (y == (⟨#[c]⟩ : Str)) = decide (c = b) := by
    rw [Bool.eq_iff_iff, beq_iff_eq, decide_eq_true_eq, eq_comm, sg_iff hy]
  show ((x == (⟨#[c]⟩ : Str)) || ((y == (⟨#[c]⟩ : Str)) || false)) = _
  rw [h1, h2, Bool.or_false, Bool.eq_iff_iff]
  simp
theorem okAll_mem {ds : List PyData} (h : okAll ds = true) : ∀ d ∈ ds, okD d = true := by
  induction ds with
  | nil => intro d hd; cases hd
  | cons e es ih =>
    simp only [okAll, Bool.and_eq_true] at h
    intro d hd
    rcases List.mem_cons.mp hd with rfl | hd
    · exact h.1
    · exact ih h.2 d hd
theorem okAll_of {ds : List PyData} (h : ∀ d ∈ ds, okD d = true) : okAll ds = true := by
  induction ds with
  | nil => rfl
  | cons e es ih =>
    simp only [okAll, Bool.and_eq_true]
    exact ⟨h e List.mem_cons_self, ih fun d hd => h d (List.mem_cons_of_mem _ hd)⟩
abbrev nfits : List Str := ["sign", "item", "part"]
theorem scfits : FnScope nfits ["sign", "item"] (defScope sfits) := ⟨rfl, rfl, rfl, by decide +kernel, rfl, by decide +kernel, by decide +kernel⟩
theorem ok_fits (F : FnP K "fits" sfits f fd) (D : Defs w K mg) : FnOk P w K mg base CX0 3 f fd ["sign", "item"] spFits := by
  have T := D.t
  obtain ⟨tC, gC⟩ := D.code40
  obtain ⟨tP, gP⟩ := D.params4
  obtain ⟨fR, fdR, gR, FR⟩ := D.is_in_range
  have GR : FnOk P w K mg base CX0 2 fR fdR ["obj", "least", "most"] spRange := okD_range D FR
  have bR : Binds K fdR ["obj", "least", "most"] [] := FR.bindsN fun _ _ _ _ _ _ us hl => match us, hl with | [_, _, _], _ => rfl
  obtain ⟨fN, fdN, gN, FN⟩ := D.is_name
  have GN : FnOk P w K mg base CX0 1 fN fdN ["value"] (spD nameD) := okD_name D FN
  have bN : Binds K fdN ["value"] [] := FN.bindsN fun _ _ _ _ _ _ us hl => match us, hl with | [_], _ => rfl
  obtain ⟨fT, fdT, gT, FT⟩ := D.is_type
  have GT : FnOk P w K mg base CX0 2 fT fdT ["value"] (spD typeD) := okD_type D FT
  have bT : Binds K fdT ["value"] [] := FT.bindsN fun _ _ _ _ _ _ us hl => match us, hl with | [_], _ => rfl
  refine F.ok scfits (fun vs H Q E h => ?_) (fun cdv A outer s H vs Q E hr h => ?_)
  · obtain ⟨c, x, d, rfl, _⟩ := h
    rfl
  · obtain ⟨c, x, d, rfl, hd, hk, hQ⟩ := h
    refine ⟨_, PSs.nox (pss_cons (ps_if (pt_cmpR op_in_seq (pv 0) (pe_tup (pa_cons pe_str (pa_cons pe_str pa_nil))) (by rfl))
        (pss_one (ps_ret (pe_call GR (hr.mono (by decide)) rfl gR FR.kp bR .nil pass0 (pa_cons (pv 1) (pa_cons pe_int (pa_cons pe_int pa_nil))))))
        pss_nil)
      (pss_cons (ps_if (pt_cmpR op_eq (pv 0) pe_str (nomark _))
        (pss_one (ps_ret (pe_call GR (hr.mono (by decide)) rfl gR FR.kp bR .nil pass0 (pa_cons (pv 1) (pa_cons pe_int (pa_cons (pe_op op_sub (pe_glob rfl gC (v := .int 40) ⟨tC, rfl⟩) pe_int) pa_nil))))))
        pss_nil)
      (pss_cons (ps_if (pt_cmpR op_in_seq (pv 0) (pe_tup (pa_cons pe_str (pa_cons pe_str pa_nil))) (by rfl))
        (pss_one (ps_ret (pe_call GN (hr.mono (by decide)) rfl gN FN.kp bN .nil pass0 (pa_cons (pv 1) pa_nil))))
        pss_nil)
      (pss_cons (ps_if (pt_cmpR op_eq (pv 0) pe_str (nomark _))
        (pss_one (ps_ret (pe_call GT (hr.mono (by decide)) rfl gT FT.kp bT .nil pass0 (pa_cons (pv 1) pa_nil))))
        pss_nil)
      (pss_cons (ps_if (PW.pt (pw_or (pt_not (pt_val (pe_callB call_isi rfl T.isi boot_isi (pa_cons (pv 1) (pa_cons (pe_bltn rfl T.tup boot_tuple (v := .ty "tuple") rfl) pa_nil))))) (pw_or1 (pt_cmpR op_gt (pe_callB call_len rfl T.len boot_len (pa_cons (pv 1) pa_nil)) (pe_glob rfl gP (v := .int 4) ⟨tP, rfl⟩) (nomark _)))))
        (pss_one (ps_ret pe_bl))
        pss_nil)
      (pss_one (ps_ret (pe_callB (cr_all rfl) rfl T.all boot_all (pa_cons (pe_lc (own := [("part", 2)]) (g := gName 2) (tt := tYes) rfl scfits.nd (pi_tup (pv 1)) (blkOk_by (N := nfits) (sc := defScope sfits) (by decide +kernel)) (fun _ _ _ _ _ => (pg_name (i := 2) scfits.nd rfl (Or.inl rfl))) (fun _ _ _ _ _ => pts_nil) (fun _ _ _ _ _ => (pe_ifExp (pt_cmpR op_eq (pv 0) pe_str (nomark _)) (pe_call GT (hr.mono (by decide)) rfl gT FT.kp bT .nil pass0 (pa_cons (pv 2) pa_nil)) (pe_call GR (hr.mono (by decide)) rfl gR FR.kp bR .nil pass0 (pa_cons (pv 2) (pa_cons pe_int (pa_cons pe_int pa_nil))))))) pa_nil))))))))), ?_⟩
    refine ⟨_, rfl, le_line (by simp), fun t1 h1 => ⟨t1, _, rfl, .inr (SqT.of upd_same), rfl, rfl, _, rfl, ?_⟩⟩
    show (if inV (.str ⟨#[c]⟩) [.str "r", .str "n"] = true then _ else _)
    rw [sg_in (a := 114) (b := 110) (by decide +kernel) (by decide +kernel)]
    have e1 := Evl.Ex.new (o := .tup [.str "r", .str "n"]) h1
    refine ite2 (fun k1 => ?_) (fun k1 => ?_)
    · refine ⟨_, rfl, x, d, 0, 9, rfl, hd.ext e1, hk, fun H' e => ?_⟩
      have q := hQ H' (e1.trans e)
      rw [show fitsC c d = inR 0 9 d from if_pos (of_decide_eq_true k1)] at q
      exact q
    have k1' : ¬ (c = 114 ∨ c = 110) := fun z => k1 (decide_eq_true z)
    refine ⟨_, rfl, rfl, _, rfl, ?_⟩
    rw [sg_eq (k := 106) (by decide +kernel)]
    refine ite2 (fun k2 => ?_) (fun k2 => ?_)
    · refine ⟨_, rfl, _, _, rfl, rfl, x, d, 0, 39, rfl, hd.ext e1, hk, fun H' e => ?_⟩
      have q := hQ H' (e1.trans e)
      rw [show fitsC c d = inR 0 39 d from by unfold fitsC; rw [if_neg k1', if_pos (of_decide_eq_true k2)]] at q
      exact q
    have k2' : ¬ c = 106 := fun z => k2 (decide_eq_true z)
    refine ⟨_, rfl, le_line (by simp), fun t2 h2 => ⟨t2, _, rfl, .inr (SqT.of upd_same), rfl, rfl, _, rfl, ?_⟩⟩
    show (if inV (.str ⟨#[c]⟩) [.str "c", .str "f"] = true then _ else _)
    rw [sg_in (a := 99) (b := 102) (by decide +kernel) (by decide +kernel)]
    have e2 := e1.trans (Evl.Ex.new (o := .tup [.str "c", .str "f"]) h2)
    refine ite2 (fun k3 => ?_) (fun k3 => ?_)
    · refine ⟨_, rfl, x, d, rfl, hd.ext e2, hk, fun H' e => ?_⟩
      have q := hQ H' (e2.trans e)
      rw [show fitsC c d = nameD d from by unfold fitsC; rw [if_neg k1', if_neg k2', if_pos (of_decide_eq_true k3)]] at q
      exact q
    have k3' : ¬ (c = 99 ∨ c = 102) := fun z => k3 (decide_eq_true z)
    refine ⟨_, rfl, rfl, _, rfl, ?_⟩
    rw [sg_eq (k := 116) (by decide +kernel)]
    refine ite2 (fun k4 => ?_) (fun k4 => ?_)
    · refine ⟨_, rfl, x, d, rfl, hd.ext e2, hk, fun H' e => ?_⟩
      have q := hQ H' (e2.trans e)
      rw [show fitsC c d = typeD d from by unfold fitsC; rw [if_neg k1', if_neg k2', if_neg k3', if_pos (of_decide_eq_true k4)]] at q
      exact q
    have k4' : ¬ c = 116 := fun z => k4 (decide_eq_true z)
    have q0 : ∀ H', Evl.Ex (upd (upd H t1 (.tup [.str "r", .str "n"])) t2 (.tup [.str "c", .str "f"])) H' → Q (.bl (tupAll (elC c) d)) H' := fun H' e => by
      have q := hQ H' (e2.trans e)
      unfold fitsC at q
      rw [if_neg k1', if_neg k2', if_neg k3', if_neg k4'] at q
      exact q
    have hd2 := hd.ext e2
    generalize (upd (upd H t1 (.tup [.str "r", .str "n"])) t2 (.tup [.str "c", .str "f"])) = H2 at q0 hd2
    refine ⟨_, rfl, _, _, _, _, _, rfl, .ty "tuple", ty_of hd2, kit_ty (kit_tupD d), _, rfl, ?_⟩
    cases d with
    | tuple ds =>
      obtain ⟨a, xs, rfl, ha, hall⟩ := hd2.tupI
      refine iteF ⟨_, rfl, _, _, rfl, .inr ⟨_, SqT.of ha, rfl⟩, _, _, rfl, rfl, _, rfl, ?_⟩
      have hl : xs.length = ds.length := EX2.DqAll.length hall
      refine ite2 (fun k5 => ?_) (fun k5 => ?_)
      · have k5' : ¬ ds.length ≤ 4 := by have := of_decide_eq_true k5; omega
        have q := q0 H2 (Evl.Ex.refl _)
        change Q (.bl (decide (ds.length ≤ 4) && ds.all (elC c))) H2 at q
        rw [decide_eq_false k5', Bool.false_and] at q
        exact q
      · have k5' : ds.length ≤ 4 := by
          apply Decidable.byContradiction
          intro z
          exact k5 (decide_eq_true (by omega))
        refine ⟨_, rfl, _, rfl, ⟨_, SqT.of ha⟩, fun D hD => ?_⟩
        refine EX2.lc_map (walk_tup (xs := xs)) hD (fun H' e => SqT.of (e _ _ ha)) (fun j => .bl ((elC c) (ds.getD j .none))) (by omega) (fun j H3 x H4 _ _ y => by rw [y.1]; exact Evl.Ex.refl _) ?_ ?_
        · rintro j x H3 H4 hj e3 _ ⟨rfl, hx⟩ Qt hQt
          obtain ⟨dj, hdj, hxj⟩ := hall.get hx
          have hkj : okD dj = true := okAll_mem hk dj (List.mem_of_getElem? hdj)
          have egd : ds.getD j .none = dj := by rw [List.getD_eq_getElem?_getD, hdj]; rfl
          rw [egd] at hQt
          refine ⟨rfl, _, rfl, rfl, _, rfl, ?_⟩
          rw [sg_eq (k := 121) (by decide +kernel)]
          refine ite2 (fun k6 => ?_) (fun k6 => ?_)
          · refine ⟨_, rfl, x, dj, rfl, hxj.ext e3, hkj, fun H5 e5 => ?_⟩
            have q := hQt H5 e5
            rw [elC, if_pos (of_decide_eq_true k6)] at q
            exact q
          · refine ⟨_, rfl, x, dj, 0, 9, rfl, hxj.ext e3, hkj, fun H5 e5 => ?_⟩
            have q := hQt H5 e5
            rw [elC, if_neg (fun z => k6 (decide_eq_true z))] at q
            exact q
        · intro H3 e3 hD3
          refine ⟨D, (List.range xs.length).map fun j => ((elC c) (ds.getD j .none)), rfl, SqL.of ?_, ?_⟩
          · rw [hD3, List.map_map]
            rfl
          · have q := q0 H3 e3
            change Q (.bl (decide (ds.length ≤ 4) && ds.all (elC c))) H3 at q
            rw [decide_eq_true k5', Bool.true_and] at q
            rw [hl, EX2.map_range_get ds (elC c) _ (fun i e he => by rw [List.getD_eq_getElem?_getD, he]; rfl), List.all_map]
            exact q
    | _ => exact iteT (q0 H2 (Evl.Ex.refl _))
end
end K50
set_option Elab.async false
set_option linter.all false
set_option maxRecDepth 100000
set_option maxHeartbeats 0
namespace EX2
open PySem PySem.Spec PyProof.Rows L2
/-- d[key], d a dict of the module -/
theorem pe_kd {X : Cx} {o i : Expr} {td ty : TE} {d : Addr} {es : Array DictEntry} {n : Nat} {pos : Pos} (D : KDict X.K X.w d es n) (ho : PE X o td) (hi : PE X i ty) (hs : NoSl i) :
    PE X (.Subscript o i pos) (tOp (fun x y H Q => ∃ (z : Str) (u0 : Value) (v0 : V), x = .ref d ∧ y = .str z ∧ PySem.W.nsIn X.K d z = some (some u0) ∧ RelV v0 u0 ∧ Q v0 H) td ty) := by
  refine ⟨fun pins s σ H Q I h => ?_⟩
  refine subD_of PySem.F.slot_dict_getitem.lookup hs (thn (ho.run pins s σ H _ I h) fun u s1 ⟨x, H1, I1, rx, q1⟩ => thn (hi.run pins s1 σ H1 _ I1 q1) fun iv s2 ⟨y, H2, I2, ry, q2⟩ => ?_)
  obtain ⟨z, u0, v0, ex, q3⟩ := id q2
  subst ex
  obtain rfl : u = Value.ref d := rx
  exact ⟨kd_type D I2, op_item_kd D pins s2 σ H2 (.ref d) y (.ref d) iv Q I2 rfl ry q2⟩
end EX2
namespace K50
open PySem PySem.Spec PyProof.Rows L2
def lenD : PyData → Nat
  | .tuple ds => ds.length
  | _ => 0
def insT (z : Str) (ds : List PyData) : Bool := match K50.forms.lookup z with
  | some fm => (decide (ds.length = fm.length) && (List.range fm.length).all fun i => fitsC (fm.cps.toList.getD i 0) (ds.getD i .none)) && (!(z == "call" || z == "ask") || decide (lenD (ds.getD 4 .none) = lenD (ds.getD 6 .none)))
  | none => false
def insD : PyData → Bool
  | .tuple (.str z :: ds) => insT z ds
  | _ => false
theorem forms_ok : ∀ p ∈ K50.forms, p.2.length ≤ 7 ∧ p.2.cps.all (· < 128) = true ∧ (p.1 = "call" ∨ p.1 = "ask" → p.2 = "rrcfytx") := by decide +kernel
theorem at0 {x : V} {xs : List V} : L2.atI (x :: xs) 0 = some x := atI_nat (j := 0) (xs := x :: xs) rfl
theorem cut1 (x : V) (xs : List V) : cutV (x :: xs) (some 1) none = xs ∧ HT.sIx (x :: xs).length 0 (some 1) = 1 := by
  have e : HT.sIx (x :: xs).length 0 (some 1) = 1 := by
    unfold HT.sIx
    show (if (1 : Int) < 0 then _ else _) = _
    rw [if_neg (by decide)]
    simp
  refine ⟨?_, e⟩
  unfold cutV
  rw [e, HT.sIx_none]
  simp
theorem inV2 (z a b : Str) : inV (.str z) [.str a, .str b] = (z == a || z == b) := by
  show ((a == z) || ((b == z) || false)) = _
  rw [Bool.or_false, show (a == z) = (z == a) from Bool.eq_iff_iff.mpr (by rw [beq_iff_eq, beq_iff_eq, eq_comm]), show (b == z) = (z == b) from Bool.eq_iff_iff.mpr (by rw [beq_iff_eq, beq_iff_eq, eq_comm])]
theorem fits_tup {c : Nat} {d : PyData} (hc : c = 120 ∨ c = 121) (h : fitsC c d = true) : ∃ l, d = .tuple l := by
  unfold fitsC at h
  rw [if_neg (by omega), if_neg (by omega), if_neg (by omega), if_neg (by omega)] at h
  cases d with
  | tuple l => exact ⟨l, rfl⟩
  | _ => cases h
theorem lookup_mem {z fm : Str} : ∀ {l : List (Str × Str)}, l.lookup z = some fm → (z, fm) ∈ l
  | [], h => by cases h
  | (a, b) :: l, h => by
    rw [List.lookup_cons] at h
    by_cases e : z = a
    · subst e
      simp at h
      subst h
      exact List.mem_cons_self
    · have : (z == a) = false := by simp [e]
      rw [this] at h
      exact List.mem_cons_of_mem _ (lookup_mem h)
section
variable {P : Program} {w : World} {K : PySem.W.Frag} {mg : Str → Option Value} {base : Heap} {f : Addr} {fd : FuncData}
abbrev nis_instruction : List Str := ["value", "form", "sign", "item"]
theorem scis_instruction : FnScope nis_instruction ["value"] (defScope sis_instruction) := ⟨rfl, rfl, rfl, by decide +kernel, rfl, by decide +kernel, by decide +kernel⟩
theorem ok_ins (F : FnP K "is_instruction" sis_instruction f fd) (D : Defs w K mg) : FnOk P w K mg base CX0 4 f fd ["value"] (spD insD) := by
  have T := D.t
  obtain ⟨es, n, kd⟩ := D.kd
  obtain ⟨ffits, fdfits, gfits, Ffits⟩ := D.fits
  have Gfits : FnOk P w K mg base CX0 3 ffits fdfits ["sign", "item"] spFits := ok_fits Ffits D
  have bfits : Binds K fdfits ["sign", "item"] [] := Ffits.bindsN fun _ _ _ _ _ _ us hl => match us, hl with | [_, _], _ => rfl
  refine F.ok scis_instruction spD_len (fun cdv A outer s H vs Q E hr h => ?_)
  obtain ⟨x, d, rfl, hd, hk, hQ⟩ := h
  refine ⟨_, PSs.nox (pss_cons (ps_if (PW.pt (pw_or (pt_not (pt_val (pe_callB call_isi rfl T.isi boot_isi (pa_cons (pv 0) (pa_cons (pe_bltn rfl T.tup boot_tuple (v := .ty "tuple") rfl) pa_nil))))) (pw_or (pt_cmpR (EX2.op_eq_tup0 (Nat.lt_of_le_of_lt (Nat.le_add_right _ 64) hr.units)) (pv 0) (pe_tup pa_nil) (nomark _)) (pw_or (pt_not (pt_val (pe_callB call_isi rfl T.isi boot_isi (pa_cons (pe_ix ix_tup (pv 0) pe_int (fun _ _ => rfl)) (pa_cons (pe_bltn rfl T.str boot_str (v := .ty "str") rfl) pa_nil))))) (pw_or1 (pt_cmpR (op_notIn_kd kd) (pe_ix ix_tup (pv 0) pe_int (fun _ _ => rfl)) (pe_glob rfl D.forms (v := .ref (He.ga K "FORMS")) rfl) (by rfl)))))))
        (pss_one (ps_ret pe_bl))
        pss_nil)
      (pss_cons (ps_set (i := 1) scis_instruction.nd rfl (Or.inl rfl) (EX2.pe_kd kd (pe_glob rfl D.forms (v := .ref (He.ga K "FORMS")) rfl) (pe_ix ix_tup (pv 0) pe_int (fun _ _ => rfl)) (fun _ _ => rfl)))
      (pss_cons (ps_if (PW.pt (pw_or (pt_cmpR op_ne (pe_callB call_len rfl T.len boot_len (pa_cons (pv 0) pa_nil)) (pe_op op_add (pe_callB call_len rfl T.len boot_len (pa_cons (pv 1) pa_nil)) pe_int) (nomark _)) (pw_or1 (pt_not (pt_val (pe_callB (cr_all rfl) rfl T.all boot_all (pa_cons (pe_lc (own := [("sign", 2), ("item", 3)]) (g := gTup K 2 (gCons (gName 2) (gCons (gName 3) gNil))) (tt := tYes) rfl scis_instruction.nd (ZS.pi_zipS rfl T.zip (pa_cons (pv 1) (pa_cons (pe_slice sl_tup (pv 0) (po_some pe_int) po_none) pa_nil))) (blkOk_by (N := nis_instruction) (sc := defScope sis_instruction) (by decide +kernel)) (fun _ _ _ _ _ => (pg_tup rfl (pgs_cons (pg_name (i := 2) scis_instruction.nd rfl (Or.inl rfl)) (pgs_cons (pg_name (i := 3) scis_instruction.nd rfl (Or.inl rfl)) pgs_nil)))) (fun _ _ _ _ _ => pts_nil) (fun _ _ _ _ _ => (pe_call Gfits (hr.mono (by decide)) rfl gfits Ffits.kp bfits .nil pass0 (pa_cons (pv 2) (pa_cons (pv 3) pa_nil))))) pa_nil)))))))
        (pss_one (ps_ret pe_bl))
        pss_nil)
      (pss_one (ps_ret (pe_or (pe_cmpR op_notIn_seq (pe_ix ix_tup (pv 0) pe_int (fun _ _ => rfl)) (pe_tup (pa_cons pe_str (pa_cons pe_str pa_nil))) (by rfl)) (pe_one (pe_cmpR op_eq (pe_callB call_len rfl T.len boot_len (pa_cons (pe_ix ix_tup (pv 0) pe_int (fun _ _ => rfl)) pa_nil)) (pe_callB call_len rfl T.len boot_len (pa_cons (pe_ix ix_tup (pv 0) pe_int (fun _ _ => rfl)) pa_nil)) (nomark _))))))))), ?_⟩
  refine ⟨_, rfl, _, _, _, _, _, rfl, .ty "tuple", ty_of hd, kit_ty (kit_tupD d), _, rfl, ?_⟩
  have q0 := hQ H (Evl.Ex.refl H)
  cases d with
  | tuple ds =>
    obtain ⟨a, xs, rfl, ha, hall⟩ := hd.tupI
    refine iteF ⟨_, rfl, Nat.zero_le _, fun p0 hp0 => ?_⟩
    have e0 := Evl.Ex.new (o := .tup []) hp0
    refine ⟨_, _, xs, rfl, rfl, SqT.of (e0 _ _ ha), SqT.of upd_same, _, rfl, ?_⟩
    cases ds with
    | nil =>
      cases hall
      exact iteT (hQ _ e0)
    | cons d0 ds =>
      cases hall with
      | @cons x0 xs _ _ h0 ht =>
      have hd1 := e0 _ _ ha
      have h01 := h0.ext e0
      have ht1 := ht.ext e0
      have q1 : ∀ H', Evl.Ex (upd H p0 (.tup [])) H' → Q (.bl (insD (.tuple (d0 :: ds)))) H' := fun H' e => hQ H' (e0.trans e)
      generalize (upd H p0 (.tup [])) = H1 at hd1 h01 ht1 q1
      refine iteF ⟨_, rfl, _, _, 0, x0, rfl, rfl, SqT.of hd1, at0, _, _, _, _, _, rfl, .ty "str", ty_of h01, kit_ty (kit_strD d0), _, rfl, ?_⟩
      cases d0 with
      | str z =>
        cases h01
        have hkd : okD (.str z) = true ∧ okAll ds = true := by
          simp only [okD, okAll, Bool.and_eq_true] at hk ⊢
          exact hk
        refine iteF ⟨_, rfl, _, _, 0, .str z, rfl, rfl, SqT.of hd1, at0, ?_⟩
        rcases D.look z with ⟨fm, tk, hl, hns⟩ | ⟨hl, hns⟩
        · have hins : insD (.tuple (.str z :: ds)) = ((decide (ds.length = fm.length) && (List.range fm.length).all fun i => fitsC (fm.cps.toList.getD i 0) (ds.getD i .none)) && (!(z == "call" || z == "ask") || decide (lenD (ds.getD 4 .none) = lenD (ds.getD 6 .none)))) := by
            show insT z ds = _
            unfold insT
            rw [hl]
          rw [hins] at q1
          obtain ⟨hf1, hf2, hf3⟩ := forms_ok _ (lookup_mem hl)
          dsimp only at hf1 hf2 hf3
          refine ⟨z, _, rfl, rfl, hns, _, rfl, iteF ?_⟩
          refine ⟨_, rfl, _, _, 0, .str z, rfl, rfl, SqT.of hd1, at0, z, _, .str fm, rfl, rfl, hns, ⟨tk, rfl⟩, ?_⟩
          have hl1 : xs.length = ds.length := EX2.DqAll.length ht1
          refine ⟨_, rfl, _, _, rfl, .inr ⟨_, SqT.of hd1, rfl⟩, _, rfl, _, _, rfl, ⟨le_line (Nat.le_trans hf1 (by decide)), rfl⟩, _, _, rfl, rfl, rfl, _, rfl, ?_⟩
          by_cases hlen : ds.length = fm.length
          · have elen : (!decide (V.int ((V.str z :: xs).length : Nat) = V.int ((fm.length : Nat) + 1))) = false := by
              rw [decide_eq_true]
              · rfl
              · rw [List.length_cons, hl1, hlen]; rfl
            rw [elen]
            refine iteF ⟨_, rfl, _, rfl, 1, rfl, _, _, rfl, SqT.of hd1, ?_, fun p1 hp1 => ?_⟩
            · rw [(cut1 _ _).2]
              omega
            rw [(cut1 _ _).1]
            have e1 := Evl.Ex.new (o := .tup xs) hp1
            refine ⟨fm, p1, xs, rfl, hf2, SqT.of upd_same, fun D hD => ?_⟩
            have hp1s : (upd H1 p1 (.tup xs)) p1 = some (.tup xs) := upd_same
            refine EX2.lc_map (ZS.walk_zipS (z := fm) (ys := xs) (n := fm.length) ?_) hD (fun H' e => SqT.of (e _ _ hp1s)) (fun i => .bl (fitsC (fm.cps.toList.getD i 0) (ds.getD i .none))) (Nat.le_trans hf1 (by decide)) ?_ ?_ ?_
            · show fm.cps.size = _
              rw [hl1, hlen]
              exact (Nat.min_self _).symm
            · rintro j H3 x H4 _ _ ⟨T, x1, y1, rfl, hT, rfl, _⟩
              exact Evl.Ex.new hT
            · rintro j x H3 H4 hj e3 e4 ⟨T0, x1, y1, rfl, hT, rfl, hx1, hy1⟩ Qt hQt
              obtain ⟨c, hc, rfl⟩ : ∃ c, fm.cps[j]? = some c ∧ x1 = .str ⟨#[c]⟩ := by
                have hx1 : (fm.cps[j]?.map fun c => V.str ⟨#[c]⟩) = some x1 := hx1
                cases hz : fm.cps[j]? with
                | none => rw [hz] at hx1; cases hx1
                | some c => rw [hz] at hx1; exact ⟨c, rfl, (Option.some.inj hx1).symm⟩
              obtain ⟨dj, hdj, hxj⟩ := ht1.get hy1
              have hkj : okD dj = true := okAll_mem hkd.2 dj (List.mem_of_getElem? hdj)
              have eg1 : fm.cps.toList.getD j 0 = c := by rw [List.getD_eq_getElem?_getD, Array.getElem?_toList, hc]; rfl
              have eg2 : ds.getD j .none = dj := by rw [List.getD_eq_getElem?_getD, hdj]; rfl
              rw [eg1, eg2] at hQt
              refine ⟨T0, _, rfl, SqT.of upd_same, rfl, _, _, rfl, _, _, rfl, rfl, ?_⟩
              exact ⟨rfl, _, rfl, _, rfl, c, y1, dj, rfl, hxj.ext (e1.trans e4), hkj, hQt⟩
            · intro H3 e3 hD3
              refine ⟨D, (List.range fm.length).map fun i => fitsC (fm.cps.toList.getD i 0) (ds.getD i .none), rfl, SqL.of ?_, ?_⟩
              · rw [hD3, List.map_map]
                rfl
              rw [List.all_map, show (id ∘ fun i => fitsC (fm.cps.toList.getD i 0) (ds.getD i .none)) = fun i => fitsC (fm.cps.toList.getD i 0) (ds.getD i .none) from rfl]
              have q3 : ∀ H', Evl.Ex H3 H' → _ := fun H' e => q1 H' ((e1.trans e3).trans e)
              rw [decide_eq_true hlen, Bool.true_and] at q3
              have hd3 := (e1.trans e3) _ _ hd1
              have ht3 := ht1.ext (e1.trans e3)
              cases hall2 : (List.range fm.length).all fun i => fitsC (fm.cps.toList.getD i 0) (ds.getD i .none) with
              | false =>
                rw [hall2, Bool.false_and] at q3
                exact ⟨_, rfl, iteT (q3 _ (Evl.Ex.refl _))⟩
              | true =>
                rw [hall2, Bool.true_and] at q3
                refine ⟨_, rfl, iteF ?_⟩
                refine ⟨_, rfl, _, _, 0, .str z, rfl, rfl, SqT.of hd3, at0, le_line (by simp), fun t4 ht4 => ⟨t4, _, rfl, .inr (SqT.of upd_same), rfl, rfl, _, rfl, ?_⟩⟩
                have e4 := Evl.Ex.new (o := .tup [.str "call", .str "ask"]) ht4
                have q4 := fun H' e => q3 H' (e4.trans e)
                have hd4 := e4 _ _ hd3
                have ht4' := ht3.ext e4
                show (if (!inV (.str z) [.str "call", .str "ask"]) = true then _ else _)
                rw [inV2]
                generalize (upd H3 t4 (.tup [.str "call", .str "ask"])) = H4 at q4 hd4 ht4'
                cases hca : (z == "call" || z == "ask") with
                | false =>
                  rw [hca] at q4
                  exact iteT (q4 _ (Evl.Ex.refl _))
                | true =>
                  rw [hca] at q4
                  have hz : z = "call" ∨ z = "ask" := by
                    rw [Bool.or_eq_true, beq_iff_eq, beq_iff_eq] at hca
                    exact hca
                  have hfm := hf3 hz
                  subst hfm
                  have l7 : ds.length = 7 := hlen
                  rw [List.all_eq_true] at hall2
                  have h4 := hall2 4 (by decide +kernel)
                  have h6 := hall2 6 (by decide +kernel)
                  rw [show ("rrcfytx" : Str).cps.toList.getD 4 0 = 121 from by decide +kernel] at h4
                  rw [show ("rrcfytx" : Str).cps.toList.getD 6 0 = 120 from by decide +kernel] at h6
                  obtain ⟨l4, e5⟩ := fits_tup (.inr rfl) h4
                  obtain ⟨l6, e6⟩ := fits_tup (.inl rfl) h6
                  have g4 : ds[4]? = some (.tuple l4) := by
                    rw [List.getD_eq_getElem?_getD, List.getElem?_eq_getElem (by omega)] at e5
                    rw [List.getElem?_eq_getElem (by omega)]
                    exact congrArg some e5
                  have g6 : ds[6]? = some (.tuple l6) := by
                    rw [List.getD_eq_getElem?_getD, List.getElem?_eq_getElem (by omega)] at e6
                    rw [List.getElem?_eq_getElem (by omega)]
                    exact congrArg some e6
                  obtain ⟨x4, gx4, dx4⟩ := ht4'.getD g4
                  obtain ⟨x6, gx6, dx6⟩ := ht4'.getD g6
                  obtain ⟨a4, ys4, rfl, ha4, hal4⟩ := dx4.tupI
                  obtain ⟨a6, ys6, rfl, ha6, hal6⟩ := dx6.tupI
                  refine iteF ⟨_, rfl, _, _, 5, .ref a4, rfl, rfl, SqT.of hd4, atI_nat (j := 5) gx4, _, _, rfl, .inr ⟨_, SqT.of ha4, rfl⟩, _, rfl, _, _, 7, .ref a6, rfl, rfl, SqT.of hd4, atI_nat (j := 7) gx6, _, _, rfl, .inr ⟨_, SqT.of ha6, rfl⟩, rfl, ?_⟩
                  have q5 := q4 _ (Evl.Ex.refl _)
                  rw [e5, e6] at q5
                  rw [EX2.DqAll.length hal4, EX2.DqAll.length hal6]
                  rw [show decide (V.int ((l4.length : Nat) : Int) = V.int ((l6.length : Nat) : Int)) = decide (l4.length = l6.length) from decide_eq_decide.mpr ⟨fun e => by have := V.int.inj e; omega, fun e => by rw [e]⟩]
                  exact q5
          · have elen : (!decide (V.int ((V.str z :: xs).length : Nat) = V.int ((fm.length : Nat) + 1))) = true := by
              rw [decide_eq_false]
              · rfl
              · rw [List.length_cons, hl1]; intro e; apply hlen; have := V.int.inj e; omega
            rw [elen]
            rw [decide_eq_false hlen, Bool.false_and, Bool.false_and] at q1
            exact iteT (q1 _ (Evl.Ex.refl _))
        · have hins : insD (.tuple (.str z :: ds)) = false := by
            show insT z ds = _
            unfold insT
            rw [hl]
          rw [hins] at q1
          exact ⟨z, _, rfl, rfl, hns, _, rfl, iteT (q1 _ (Evl.Ex.refl _))⟩
      | _ => exact iteT (q1 _ (Evl.Ex.refl _))
  | _ => exact iteT q0
end
end K50
set_option Elab.async false
set_option linter.all false
set_option maxRecDepth 100000
set_option maxHeartbeats 4000000
/-! d.update(d2) of int and text keys; == [] and != [] of any list -/
namespace EX2
open PySem PySem.Spec PyProof.Rows L2
def rDUpd : V → List V → Hp → VK → Prop := fun x vs H Q => ∃ (a b : Addr) (kvs more : List (Key × V)), x = .ref a ∧ vs = [.ref b] ∧ a ≠ b ∧ H a = some (.dK kvs) ∧ H b = some (.dK more) ∧ kvs.length + more.length ≤ sizeLine ∧ Q .non (upd H a (.dK (mergeK kvs more)))
theorem mtd_update {X : Cx} : MtR X "dict.update" rDUpd := by
  intro pins s σ H x vs v us Q I rx rv h
  obtain ⟨a, b, kvs, more, ex, ev, hne, ea, eb, hsz, q⟩ := h
  subst ex
  subst ev
  obtain rfl : v = Value.ref a := rx
  obtain ⟨u, rfl, ru⟩ := vals1 rv
  obtain rfl : u = Value.ref b := ru
  obtain ⟨z1, hd1, vs1, r1, dd1⟩ := dk_of I.hok ea
  obtain ⟨z2, hd2, vs2, r2, dd2⟩ := dk_of I.hok eb
  have l1 : kvs.length = vs1.length := Paired.length r1
  have l2 : more.length = vs2.length := Paired.length r2
  refine call_meetsIn PySem.F.slot_dict_update dd1.typeIs PySem.F.entry_dict_update (PySem.F.args_dict_update_2 _ _) (meets_dict_update (mixKind X.prog X.w) a b hne hd2)
    ⟨vs1, vs2, dd1, dd2, by rw [← l1, ← l2]; exact hsz, fun h' dd' _ hs => ⟨.non, _, ?_, rfl, q⟩⟩
  have he : ∃ q, h'.get? a = some q := let ⟨q, _, _, hq, _⟩ := dd'; ⟨q, hq⟩
  have hl : (mergeK kvs more).length ≤ sizeLine := Nat.le_trans (length_mergeK more kvs) hsz
  exact d_write (t' := s.toks) I (by rw [ea]; exact True.intro) hs he (dk_new hl hd1 (KV.merge r2 r1) dd')
section
variable {X : Cx} {o e : Expr} {to te : TE} {apos cpos : Pos}
theorem pe_dupd (ho : PE X o to) (ha : PE X e te) (hbase : attributeBase o "update" X.env (eval o X.env) = eval o X.env := by rfl)
    (hfew : ((backTo cpos (starEach [e] X.env)).all (fun x => !x.1) && (backToKw cpos (keywordEach [] X.env)).all (fun x => x.1.isSome)
      && decide ([e].length + ([] : List Keyword).length + (if ([] : List Keyword).isEmpty then 0 else 1) < 30)) = true := by rfl)
    (hline : (apos.endLine == cpos.line) = true := by rfl) (hs : starEach [e] X.env = (false, eval e X.env) :: starEach [] X.env := by rfl) :
    PE X (.Call (.Attribute o "update" apos) [e] [] cpos) (tBM X.K "dict" rDUpd to (tCons te tNil)) :=
  pe_bm PySem.F.plainAttrs_dict PySem.F.slot_dict_update PySem.F.type_dict_update mtd_update ho (pa_cons ha pa_nil hs) hbase hfew hline hs
end
section
variable {X : Cx}
def rL0 (K : PySem.W.Frag) (neg : Bool) : R2 := fun x y H Q => ∃ (a b : Addr) (xs : List V), x = .ref a ∧ y = .ref b ∧ SqL K H a xs ∧ SqL K H b [] ∧ Q (.bl (if neg then !xs.isEmpty else xs.isEmpty)) H
theorem op_eq_lst0 (hu : X.A.units < cLine) : OpR X (compareOp .Eq) (rL0 X.K false) := by
  intro pins s σ H x y v u Q I rx ry h
  obtain ⟨a, b, xs, rfl, rfl, ha, hb, q⟩ := h
  cases rx
  cases ry
  obtain ⟨its, rv, ht, hz⟩ := I.list ha
  obtain ⟨its2, rv2, ht2, hz2⟩ := I.list hb
  have l1 := rv.length
  have l2 := rv2.length
  have e2 : its2 = [] := List.length_eq_zero_iff.mp (by simpa using l2.symm)
  subst e2
  cases xs with
  | nil =>
    have e1 : its = [] := List.length_eq_zero_iff.mp (by simpa using l1.symm)
    subst e1
    exact SeqAt.eq_listAt (e := fun _ => true) ht.isList ht2.isList rfl hu (fun j h1 h2 => absurd h2 (by simp)) ⟨.bl _, H, I, rfl, q⟩
  | cons x xs =>
    refine SeqAt.eq_list_lengthsAt ht.isList ht2.isList ?_ hu ⟨.bl _, H, I, rfl, q⟩
    cases its with
    | nil => simp at l1
    | cons y ys => simp
theorem op_ne_lst0 (hu : X.A.units < cLine) : OpR X (compareOp .NotEq) (rL0 X.K true) := by
  intro pins s σ H x y v u Q I rx ry h
  obtain ⟨a, b, xs, rfl, rfl, ha, hb, q⟩ := h
  cases rx
  cases ry
  obtain ⟨its, rv, ht, hz⟩ := I.list ha
  obtain ⟨its2, rv2, ht2, hz2⟩ := I.list hb
  have l1 := rv.length
  have l2 := rv2.length
  have e2 : its2 = [] := List.length_eq_zero_iff.mp (by simpa using l2.symm)
  subst e2
  cases xs with
  | nil =>
    have e1 : its = [] := List.length_eq_zero_iff.mp (by simpa using l1.symm)
    subst e1
    exact (SeqAt.RcNeAt.lists (e := fun _ => true) ht.isList ht2.isList rfl hu (fun j h1 h2 => absurd h2 (by simp))) X.prog X.w _ _ ⟨.bl _, H, I, rfl, q⟩
  | cons x xs =>
    refine (SeqAt.RcNeAt.lists_lengths ht.isList ht2.isList ?_ hu) X.prog X.w _ _ ⟨.bl _, H, I, rfl, q⟩
    cases its with
    | nil => simp at l1
    | cons y ys => simp
end
section
variable {J : It} {n : Nat} {G : Hp → Prop} {Y : Nat → Hp → V → Hp → Prop}
/-- a comprehension with a test, the heap growing -/
theorem lc_filt (w : Walk J n G Y) {g : TG} {tt : TT} {te : TE} {vs : List Nat} {σ : L2.St} {H1 : Hp} {D : Addr} {Qd : Hp → Prop} (hD : H1 D = none) (hG : ∀ H', Evl.Ex H1 H' → G H') (b : Nat → Bool) (v : Nat → V) (hz : n ≤ 100000)
    (hY : ∀ j H2 x H3, j < n → Evl.Ex H1 H2 → Y j H2 x H3 → Evl.Ex H2 H3)
    (hs : ∀ j x H2 H3, j < n → Evl.Ex H1 H2 → Evl.Ex H1 H3 → Y j H2 x H3 → ∀ (Qa : V → Hp → Prop) (Qb : Hp → Prop), (∀ H4, Evl.Ex H3 H4 → b j = true → Qa (v j) H4) → (∀ H4, Evl.Ex H3 H4 → b j = false → Qb H4) →
      g x (wipe σ vs) H3 fun σ2 H4 => wipe σ2 vs = wipe σ vs ∧ tt σ2 H4 fun bb H5 => if bb = true then te σ2 H5 Qa else Qb H5)
    (hd : ∀ H', Evl.Ex H1 H' → H' D = some (.lst (((List.range n).filter b).map v)) → Qd H') :
    ∃ W : Nat → Nat → Hp → Prop, (∃ m, W 0 m (upd H1 D (.lst []))) ∧ ∀ i m H, W i m H →
      (J.stop i H ∧ Qd H) ∨ (J.go i H ∧ ∃ Nx : Hp → Prop, (∀ H', Nx H' → ∃ m', m' < m ∧ W (i + 1) m' H') ∧ ∀ x H', J.yld i H x H' → g x (wipe σ vs) H' fun σ2 H2 => wipe σ2 vs = wipe σ vs ∧ tt σ2 H2 fun b H3 =>
        if b = true then te σ2 H3 fun y H4 => ∃ acc, H4 D = some (.lst acc) ∧ acc.length < sizeLine ∧ Nx (upd H4 D (.lst (acc ++ [y]))) else Nx H3) := by
  refine lc_it w (fun j H' => Evl.Ex H1 H' ∧ H' D = some (.lst (((List.range j).filter b).map v))) ⟨Evl.Ex.new hD, upd_same⟩ (fun i H hi p => hG H p.1) ?_ (fun H p => hd H p.1 p.2)
  rintro j x H2 H3 hj ⟨e, hd2⟩ hy
  have e3 := hY j H2 x H3 hj e hy
  refine hs j x H2 H3 hj e (e.trans e3) hy _ _ (fun H4 e4 hb => ?_) (fun H4 e4 hb => ?_)
  · refine ⟨_, e4 _ _ (e3 _ _ hd2), ?_, ((e.trans e3).trans e4).mut hD, ?_⟩
    · rw [List.length_map]
      have := List.length_filter_le b (List.range j)
      rw [List.length_range] at this
      exact Evl.sz_lt (by omega)
    · rw [upd_same, List.range_succ, List.filter_append, List.map_append]
      simp [hb]
  · refine ⟨(e.trans e3).trans e4, ?_⟩
    rw [e4 _ _ (e3 _ _ hd2), List.range_succ, List.filter_append, List.map_append]
    simp [hb]
end
theorem filt_empty {n : Nat} {b : Nat → Bool} {v : Nat → V} : (((List.range n).filter b).map v).isEmpty = (List.range n).all fun i => !b i := by
  induction n with
  | zero => rfl
  | succ n ih =>
    rw [List.range_succ, List.filter_append, List.map_append, List.all_append, ← ih]
    cases hb : b n <;> simp [hb]
end EX2
set_option Elab.async false
set_option linter.all false
set_option maxRecDepth 100000
set_option maxHeartbeats 4000000
/-! data without lists; comprehensions that draw; a list or a tuple walked -/
namespace EX2
open PySem PySem.Spec PyProof.Rows L2
mutual
def noL : PyData → Bool
  | .list _ => false
  | .dict _ => false
  | .tuple ds => noLs ds
  | _ => true
def noLs : List PyData → Bool
  | [] => true
  | d :: ds => noL d && noLs ds
end
theorem noLs_mem {ds : List PyData} (h : noLs ds = true) : ∀ d ∈ ds, noL d = true := by
  induction ds with
  | nil => intro d hd; cases hd
  | cons e es ih =>
    simp only [noLs, Bool.and_eq_true] at h
    intro d hd
    rcases List.mem_cons.mp hd with rfl | hd
    · exact h.1
    · exact ih h.2 d hd
theorem noLs_of {ds : List PyData} (h : ∀ d ∈ ds, noL d = true) : noLs ds = true := by
  induction ds with
  | nil => rfl
  | cons e es ih =>
    simp only [noLs, Bool.and_eq_true]
    exact ⟨h e List.mem_cons_self, ih fun d hd => h d (List.mem_cons_of_mem _ hd)⟩
theorem noLs_app {a b : List PyData} (ha : noLs a = true) (hb : noLs b = true) : noLs (a ++ b) = true :=
  noLs_of fun d hd => (List.mem_append.mp hd).elim (noLs_mem ha d) (noLs_mem hb d)
section
variable {H : Hp} {D : Addr} {o : HO} {l : List V}
mutual
theorem Dq.mutD (hD : H D = some (.lst l)) : ∀ {x : V} {d : PyData}, Dq H x d → noL d = true → Dq (upd H D o) x d
  | _, _, .non, _ => .non
  | _, _, .bl b, _ => .bl b
  | _, _, .int i, _ => .int i
  | _, _, .str x, _ => .str x
  | _, _, .lst q h, n => by cases n
  | _, _, .tup (a := a) q h, n => .tup (by rw [upd_ne (ne_of q hD (fun z => nomatch z))]; exact q) (DqAll.mutD hD h n)
  | _, _, .dk q h, n => by cases n
theorem DqAll.mutD (hD : H D = some (.lst l)) : ∀ {xs : List V} {ds : List PyData}, DqAll H xs ds → noLs ds = true → DqAll (upd H D o) xs ds
  | _, _, .nil, _ => .nil
  | _, _, .cons h t, n => by
    simp only [noLs, Bool.and_eq_true] at n
    exact .cons (Dq.mutD hD h n.1) (DqAll.mutD hD t n.2)
end
end
theorem rm_upd {p D : Addr} {H : Hp} {o : HO} (h : D ≠ p) : rm p (upd H D o) = upd (rm p H) D o := by
  funext a
  by_cases ha : a = p
  · subst ha
    rw [upd_ne (Ne.symm h)]
    simp [rm]
  · rw [rm_ne ha]
    by_cases hb : a = D
    · subst hb; rw [upd_same, upd_same]
    · rw [upd_ne hb, upd_ne hb, rm_ne ha]
theorem rm_same {p : Addr} {H : Hp} {o : HO} : rm p (upd H p o) = rm p H := by
  funext a
  by_cases ha : a = p
  · subst ha; simp [rm]
  · rw [rm_ne ha, rm_ne ha, upd_ne ha]
theorem DzAll.mutD {p D : Addr} {H : Hp} {o : HO} {l : List V} {xs : List V} {ds : List PyData} (hD : H D = some (.lst l)) (np : D ≠ p) (h : DzAll p H xs ds) (n : noLs ds = true) : DzAll p (upd H D o) xs ds := by
  show DqAll (rm p (upd H D o)) xs ds
  rw [rm_upd np]
  exact DqAll.mutD (l := l) (by rw [rm_ne np]; exact hD) h n
theorem Dz.mutD {p D : Addr} {H : Hp} {o : HO} {l : List V} {x : V} {d : PyData} (hD : H D = some (.lst l)) (np : D ≠ p) (h : Dz p H x d) (n : noL d = true) : Dz p (upd H D o) x d := by
  show Dq (rm p (upd H D o)) x d
  rw [rm_upd np]
  exact Dq.mutD (l := l) (by rw [rm_ne np]; exact hD) h n
section
variable {J : It} {n : Nat} {G : Hp → Prop} {Y : Nat → Hp → V → Hp → Prop}
/-- a comprehension whose elements are drawn -/
theorem lc_lx (w : Walk J n G Y) {p : Addr} {g : TG} {te : TE} {vs : List Nat} {σ : L2.St} {H1 : Hp} {D : Addr} {Qd : Hp → Prop} (s : Sc p H1) (hD : H1 D = none) (hG : ∀ H', Lx p H1 H' → G H') (R : Nat → PyData → Prop) (hz : n ≤ 100000)
    (hY : ∀ j H2 x H3, Y j H2 x H3 → H3 = H2)
    (hs : ∀ j x H2, j < n → Lx p H1 H2 → Y j H2 x H2 → ∀ Qt : V → Hp → Prop, (∀ y d H4, Lx p H2 H4 → Dz p H4 y d → noL d = true → R j d → Qt y H4) → g x (wipe σ vs) H2 fun σ2 H4 => wipe σ2 vs = wipe σ vs ∧ te σ2 H4 Qt)
    (hd : ∀ H' xs ds, Lx p H1 H' → H' D = some (.lst xs) → DzAll p H' xs ds → ds.length = n → noLs ds = true → (∀ i d, ds[i]? = some d → R i d) → Qd H') :
    ∃ W : Nat → Nat → Hp → Prop, (∃ m, W 0 m (upd H1 D (.lst []))) ∧ ∀ i m H, W i m H →
      (J.stop i H ∧ Qd H) ∨ (J.go i H ∧ ∃ Nx : Hp → Prop, (∀ H', Nx H' → ∃ m', m' < m ∧ W (i + 1) m' H') ∧ ∀ x H', J.yld i H x H' → g x (wipe σ vs) H' fun σ2 H2 => wipe σ2 vs = wipe σ vs ∧ tYes σ2 H2 fun b H3 =>
        if b = true then te σ2 H3 fun y H4 => ∃ acc, H4 D = some (.lst acc) ∧ acc.length < sizeLine ∧ Nx (upd H4 D (.lst (acc ++ [y]))) else Nx H3) := by
  have np : D ≠ p := s.ne hD
  refine lc_it w (fun j H' => Lx p H1 H' ∧ ∃ xs ds, H' D = some (.lst xs) ∧ DzAll p H' xs ds ∧ ds.length = j ∧ noLs ds = true ∧ ∀ i d, ds[i]? = some d → R i d)
    ⟨.of s (Evl.Ex.new hD), [], [], upd_same, .nil, rfl, rfl, fun i d h => by simp at h⟩ (fun i H hi q => hG H q.1) ?_ (fun H ⟨l, xs, ds, a, b, c, d, e⟩ => hd H xs ds l a b c d e)
  rintro j x H2 H3 hj ⟨l, xs, ds, hd2, hall, hlen, hno, hR⟩ hy
  obtain rfl := hY j H2 x H3 hy
  have q := hs j x H3 hj l hy (fun y H4 => ∃ acc, H4 D = some (.lst acc) ∧ acc.length < sizeLine ∧ (Lx p H1 (upd H4 D (.lst (acc ++ [y]))) ∧ ∃ xs ds, (upd H4 D (.lst (acc ++ [y]))) D = some (.lst xs) ∧ DzAll p (upd H4 D (.lst (acc ++ [y]))) xs ds ∧ ds.length = j + 1 ∧ noLs ds = true ∧ ∀ i d, ds[i]? = some d → R i d)) ?_
  · simp only [tYes, if_true]
    exact q
  · intro y d H4 l4 hy4 hnd hRd
    have hD4 := l4.at hd2 np
    refine ⟨xs, hD4, ?_, (l.trans l4).mut np hD, xs ++ [y], ds ++ [d], upd_same, ?_, ?_, ?_, ?_⟩
    · rw [DqAll.length hall]
      exact Evl.sz_lt (by omega)
    · exact DqAll.app ((hall.lx l4).mutD hD4 np hno) (.cons (hy4.mutD hD4 np hnd) .nil)
    · rw [List.length_append, hlen]; rfl
    · exact noLs_app hno (by simp only [noLs, Bool.and_true]; exact hnd)
    · intro i e he
      rw [List.getElem?_append] at he
      split at he
      · exact hR i e he
      · rename_i hi
        have hi2 : i = ds.length := by
          rcases Nat.lt_or_ge i (ds.length + 1) with h | h
          · omega
          · rw [List.getElem?_eq_none (by simp; omega)] at he; cases he
        subst hi2
        rw [Nat.sub_self] at he
        cases he
        rw [hlen]
        exact hRd
end
/-! ### a list or a tuple walked -/
def iSeq (K : PySem.W.Frag) (tl : TE) : TI := fun σ H R => tl σ H fun x H1 => ∃ a, x = .ref a ∧ (((∃ xs, SqL K H1 a xs) ∧ R (Itl K a) H1) ∨ ((∃ xs, SqT K H1 a xs) ∧ R (Itt K a) H1))
theorem pi_seqq {X : Cx} {tg l : Expr} {tl : TE} (hl : PE X l tl) : PI X tg l (iSeq X.K tl) := by
  refine ⟨fun pins s σ H R I h => ?_⟩
  refine thn (hl.run pins s σ H _ I h) fun v s1 ⟨x, H1, I1, r1, q1⟩ => ?_
  obtain ⟨a, e, q1⟩ := q1
  subst e
  rcases q1 with ⟨⟨xs, hq⟩, q⟩ | ⟨⟨xs, hq⟩, q⟩
  · cases r1
    obtain ⟨its, rv, p, hz⟩ := I1.list hq
    refine wpAny_pyIter_list p.isList ?_
    refine ⟨s1.heap.objs.size, [s1.heap.objs.size], _, _, H1, rfl, I1.kept (t' := s1.toks) fun b o e => Heap.get?_push_of_some _ e, turn_list a _, ⟨_, Heap.get?_push_size _ rfl, rfl, rfl⟩, fun b hb => ?_, q⟩
    have e : b = s1.heap.objs.size := by simpa using hb
    subst e
    exact I1.fpOk (Nat.le_refl _) (I1.hok.fresh (Nat.le_refl _))
  · cases r1
    obtain ⟨its, rv, p, hz⟩ := I1.tuple hq
    refine wpAny_pyIter_tuple (show s1.heap.IsTuple a its.toArray from p) ?_
    refine ⟨s1.heap.objs.size, [s1.heap.objs.size], _, _, H1, rfl, I1.kept (t' := s1.toks) fun b o e => Heap.get?_push_of_some _ e, turn_tuple a _, ⟨_, Heap.get?_push_size _ rfl, rfl, rfl⟩, fun b hb => ?_, q⟩
    have e : b = s1.heap.objs.size := by simpa using hb
    subst e
    exact I1.fpOk (Nat.le_refl _) (I1.hok.fresh (Nat.le_refl _))
end EX2
set_option Elab.async false
set_option linter.all false
set_option maxRecDepth 100000
set_option maxHeartbeats 0
namespace K50
open PySem PySem.Spec PyProof.Rows L2 EX2
/-! ### what is drawn -/
theorem inR_int (lo hi i : Int) : inR lo hi (.int i) = (decide (lo ≤ i) && decide (i ≤ hi)) := rfl
def spDr : Sp := fun vs H Q _ => ∃ (p : Addr) (m : Int), vs = [.ref p, .int m] ∧ Sc p H ∧ 0 < m ∧ m < 1073741824 ∧ ∀ d H', 0 ≤ d → d < m → Lx p H H' → Q (.int d) H'
def spPick : Sp := fun vs H Q _ => ∃ (p l : Addr) (xs : List V), vs = [.ref p, .ref l] ∧ Sc p H ∧ l ≠ p ∧ H l = some (.lst xs) ∧ xs ≠ [] ∧ xs.length ≤ 1000 ∧ ∀ x H', x ∈ xs → Lx p H H' → Q x H'
def tyS : List Str := ["a", "a[]", "b", "b[]", "c", "c[]", "top", "top[]"]
def spTy : Sp := fun vs H Q _ => ∃ (p : Addr), vs = [.ref p] ∧ Sc p H ∧ ∀ z H', z ∈ tyS → Lx p H H' → Q (.str z) H'
theorem tyS_ok : ∀ z ∈ tyS, isNm (nmOf z) = true ∧ z.length ≤ 5 ∧ PyData.strOk z = true := by decide +kernel
section
variable {P : Program} {w : World} {K : PySem.W.Frag} {mg : Str → Option Value} {base : Heap} {f : Addr} {fd : FuncData}
theorem okL_draw (F : FnP K "_law_draw" sDraw f fd) (D : Defs w K mg) : FnOk P w K mg base CX0 1 f fd ["_law_source_here", "_law_amount"] spDr := by
  refine (ok_draw F D.t).imp ?_
  rintro vs H Q E ⟨p, m, rfl, ⟨N, S, hp, h1, h2, h3⟩, m0, m1, q⟩
  exact ⟨p, N, S, m, rfl, hp, h1, h2, h3, m0, m1, fun d N' S' a b c e f => q d _ a b ⟨by rw [rm_same]; exact .refl _, N', S', upd_same, c, e, f⟩⟩
abbrev npick : List Str := ["_law_source_here", "_law_items"]
theorem scpick : FnScope npick ["_law_source_here", "_law_items"] (defScope spick) := ⟨rfl, rfl, rfl, by decide +kernel, rfl, by decide +kernel, by decide +kernel⟩
theorem ok_pick (F : FnP K "_law_pick" spick f fd) (D : Defs w K mg) : FnOk P w K mg base CX0 2 f fd ["_law_source_here", "_law_items"] spPick := by
  have T := D.t
  obtain ⟨fD, fdD, gD, FD⟩ := D.draw
  have GD : FnOk P w K mg base CX0 1 fD fdD ["_law_source_here", "_law_amount"] spDr := okL_draw FD D
  have bD : Binds K fdD ["_law_source_here", "_law_amount"] [] := FD.bindsN fun _ _ _ _ _ _ us hl => match us, hl with | [_, _], _ => rfl
  refine F.ok scpick (fun vs H Q E h => ?_) (fun cdv A outer s H vs Q E hr h => ?_)
  · obtain ⟨p, l, xs, rfl, _⟩ := h
    rfl
  · obtain ⟨p, l, xs, rfl, hs, hlp, hl, hne, hlen, hQ⟩ := h
    refine ⟨_, PSs.nox (pss_one (ps_ret (pe_ix ix_list (pv 1) (pe_call GD hr rfl gD FD.kp bD .nil pass0 (pa_cons (pv 0) (pa_cons (pe_callB call_len rfl T.len boot_len (pa_cons (pv 1) pa_nil)) pa_nil))) (fun _ _ => rfl)))), ?_⟩
    have h0 : 0 < xs.length := List.length_pos_iff.mpr hne
    refine ⟨_, rfl, _, rfl, _, rfl, _, _, rfl, .inl ⟨_, SqL.of hl, rfl⟩, p, _, rfl, hs, by omega, by omega, fun d H' d0 d1 lx => ?_⟩
    obtain ⟨k, rfl⟩ := Int.eq_ofNat_of_zero_le d0
    have hk : k < xs.length := by omega
    exact ⟨l, xs, _, xs[k], rfl, rfl, SqL.of (lx.at hl hlp), atI_nat (List.getElem?_eq_getElem hk), hQ _ _ (List.getElem_mem hk) lx⟩
end
end K50
set_option Elab.async false
set_option linter.all false
set_option maxRecDepth 100000
set_option maxHeartbeats 0
namespace K50
open PySem PySem.Spec PyProof.Rows L2 EX2
def nm4 : List Str := ["a", "b", "c", "top"]
theorem nm4_ok : ∀ z ∈ nm4, isNm z = true ∧ z.length ≤ 5 ∧ PyData.strOk z = true := by decide +kernel
/-- drawers and targets -/
def itemsD : PyData → List PyData
  | .tuple ds => ds
  | _ => []
def drawT (fm : Str) (ds : List PyData) : List PyData := (List.range fm.length).flatMap fun i => if fm.cps.toList.getD i 0 = 114 then [ds.getD i .none] else if fm.cps.toList.getD i 0 = 120 then itemsD (ds.getD i .none) else []
def tgtT (fm : Str) (ds : List PyData) : List PyData := (List.range fm.length).flatMap fun i => if fm.cps.toList.getD i 0 = 106 then [ds.getD i .none] else []
def drawD : PyData → List PyData
  | .tuple (.str z :: ds) => match K50.forms.lookup z with
    | some fm => drawT fm ds
    | none => []
  | _ => []
def tgtD : PyData → List PyData
  | .tuple (.str z :: ds) => match K50.forms.lookup z with
    | some fm => tgtT fm ds
    | none => []
  | _ => []
def ltD (m : Int) : PyData → Bool
  | .int i => decide (i < m)
  | _ => false
end K50
set_option Elab.async false
set_option linter.all false
set_option maxRecDepth 100000
set_option maxHeartbeats 0
namespace K50
open PySem PySem.Spec PyProof.Rows L2 EX2
/-! ### the parts of a method -/
def seqD (m : Int) : PyData → Bool
  | .list ds => decide ((ds.length : Int) ≤ m)
  | .tuple ds => decide ((ds.length : Int) ≤ m)
  | _ => false
def spSeq : Sp := fun vs H Q _ => ∃ (x : V) (d : PyData) (m : Int), vs = [x, .int m] ∧ Dq H x d ∧ ∀ H', Evl.Ex H H' → Q (.bl (seqD m d)) H'
theorem kit_list2 (d : PyData) {K : PySem.W.Frag} : PySem.W.kitAny K (.type (tyD d)) [.type "list", .type "tuple"] = some (isLstD d || isTupD d) := by
  refine kitAny_cons (kit_ty (kit_lstD d)) (fun h => kitAny_cons (kit_ty (kit_tupD d)) (fun h2 => by rw [h, h2]; exact kitAny_nil) (fun h2 => by rw [h, h2]; rfl)) (fun h => by rw [h]; rfl)
section
variable {P : Program} {w : World} {K : PySem.W.Frag} {mg : Str → Option Value} {base : Heap} {f : Addr} {fd : FuncData}
abbrev nseq : List Str := ["obj", "most"]
theorem scseq : FnScope nseq ["obj", "most"] (defScope ssequence) := ⟨rfl, rfl, rfl, by decide +kernel, rfl, by decide +kernel, by decide +kernel⟩
theorem ok_seq (F : FnP K "is_sequence" ssequence f fd) (D : Defs w K mg) : FnOk P w K mg base CX0 1 f fd ["obj", "most"] spSeq := by
  have T := D.t
  refine F.ok scseq (fun vs H Q E h => ?_) (fun cdv A outer s H vs Q E hr h => ?_)
  · obtain ⟨x, d, m, rfl, _⟩ := h
    rfl
  · obtain ⟨x, d, m, rfl, hd, hQ⟩ := h
    refine ⟨_, PSs.nox (pss_one (ps_ret (pe_and (pe_callB call_isiT rfl T.isi boot_isi (pa_cons (pv 0) (pa_cons (pe_tup (pa_cons (pe_bltn rfl T.lst boot_list (v := .ty "list") rfl) (pa_cons (pe_bltn rfl T.tup boot_tuple (v := .ty "tuple") rfl) pa_nil))) pa_nil))) (pe_one (pe_cmpR op_le (pe_callB call_len rfl T.len boot_len (pa_cons (pv 0) pa_nil)) (pv 1) (nomark _)))))), ?_⟩
    refine ⟨_, rfl, le_line (by simp), fun t1 h1 => ?_⟩
    have e1 := Evl.Ex.new (o := .tup [.ty "list", .ty "tuple"]) h1
    have hd1 := hd.ext e1
    refine ⟨x, t1, _, _, _, _, rfl, upd_same, .cons (.ty _) (.cons (.ty _) .nil), ty_of hd1, kit_list2 d, _, rfl, ?_⟩
    have q := hQ _ e1
    cases d with
    | list ds =>
      obtain ⟨a, xs, rfl, ha, hall⟩ := hd1.lstI
      refine iteT ⟨_, rfl, _, _, rfl, .inl ⟨_, SqL.of ha, rfl⟩, _, rfl, _, _, rfl, rfl, ?_⟩
      rw [DqAll.length hall]
      exact q
    | tuple ds =>
      obtain ⟨a, xs, rfl, ha, hall⟩ := hd1.tupI
      refine iteT ⟨_, rfl, _, _, rfl, .inr ⟨_, SqT.of ha, rfl⟩, _, rfl, _, _, rfl, rfl, ?_⟩
      rw [DqAll.length hall]
      exact q
    | _ => exact iteF q
def spSize : Sp := fun vs H Q _ => ∃ (x : V) (d : PyData) (n : Int), vs = [x, .int n] ∧ Dq H x d ∧ okD d = true ∧ ∀ H', Evl.Ex H H' → Q (.bl (inR (1 + n) 10 d)) H'
abbrev nsize : List Str := ["value", "params"]
theorem scsize : FnScope nsize ["value", "params"] (defScope ssize) := ⟨rfl, rfl, rfl, by decide +kernel, rfl, by decide +kernel, by decide +kernel⟩
theorem ok_size (F : FnP K "is_size" ssize f fd) (D : Defs w K mg) : FnOk P w K mg base CX0 2 f fd ["value", "params"] spSize := by
  have T := D.t
  obtain ⟨tS, gS⟩ := D.size10
  obtain ⟨fI, fdI, gI, FI⟩ := D.is_integer
  have GI : FnOk P w K mg base CX0 1 fI fdI ["obj"] (spD isIntD) := ok_integer FI T
  have bI : Binds K fdI ["obj"] [] := FI.bindsN fun _ _ _ _ _ _ us hl => match us, hl with | [_], _ => rfl
  refine F.ok scsize (fun vs H Q E h => ?_) (fun cdv A outer s H vs Q E hr h => ?_)
  · obtain ⟨x, d, m, rfl, _⟩ := h
    rfl
  · obtain ⟨x, d, n, rfl, hd, hk, hQ⟩ := h
    refine ⟨_, PSs.nox (pss_one (ps_ret (pe_and (pe_call GI hr rfl gI FI.kp bI .nil pass0 (pa_cons (pv 0) pa_nil)) (pe_one (pe_chain op_le op_le (pe_op op_add pe_int (pv 1)) (pv 0) (pe_glob rfl gS (v := .int 10) ⟨tS, rfl⟩)))))), ?_⟩
    refine ⟨_, rfl, x, d, rfl, hd, hk, fun H' e => ⟨_, rfl, ?_⟩⟩
    have q := hQ H' e
    refine ite2 (fun h => ?_) (fun h => ?_)
    · cases d with
      | int i =>
        cases hd
        refine ⟨_, rfl, _, _, rfl, rfl, _, rfl, _, _, rfl, rfl, _, rfl, ?_⟩
        have q2 : Q (.bl (decide (1 + n ≤ i) && decide (i ≤ 10))) H' := q
        refine ite2 (fun h1 => ?_) (fun h1 => ?_)
        · refine ⟨_, _, rfl, rfl, ?_⟩
          rw [h1, Bool.true_and] at q2
          exact q2
        · rw [show decide (1 + n ≤ i) = false from by simpa using h1, Bool.false_and] at q2
          exact q2
      | _ => cases h
    · cases d <;> first | exact q | exact absurd rfl h
end
end K50
set_option Elab.async false
set_option linter.all false
set_option maxRecDepth 100000
set_option maxHeartbeats 4000000
/-! l.extend(t), t a tuple -/
namespace EX2
open PySem PySem.Spec PyProof.Rows L2
theorem notLongL' {n : Nat} (h : n ≤ sizeLine) : Builtin.List.listTooLong n = false := by
  unfold Builtin.List.listTooLong
  have := sizeLine_eq
  exact decide_eq_false (by omega)
open AutoSeq1 in
theorem list_extend_tupG (l : Addr) (items : Array Value) (n : Nat) (b : Addr) (items2 : Array Value) (n2 : Nat) (dd : Option Addr) (sl : Array (Option Value)) (hs0 : ¬(!items.isEmpty && Builtin.List.listTooLong (items.size + items2.size)) = true) (hs1 : items.size ≤ sizeLine) (hs2 : items.size + items2.size ≤ sizeLine + 1) :
    Meets (Builtin.«list.extend» ⟨[.ref l, .ref b], []⟩) (fun _ R s => s.heap.get? l = some { cls := .type "list", dict := none, data := .seq items n, slots := #[] } ∧ s.heap.get? b = some { cls := .type "tuple", dict := dd, data := .seq items2 n2, slots := sl } ∧ R (.ok (.ret Value.none)) { s with heap := s.heap.update l (Obj.mapSeq fun x => x ++ items2), toks := s.toks }) :=
  .of_wp fun prog w A R s h => by
    obtain ⟨hp, g, d, tk, os⟩ := s; obtain ⟨hl, hb, h⟩ := h; have f1 := AutoSeq1.idx_int; have f2 := AutoSeq1.sub_tuple_tuple; have f3 := AutoSeq1.sub_list_list; have f4 := AutoSeq1.sub_tuple_list; have f5 := AutoSeq1.sub_list_tuple;
    have hz' : (items ++ items2).size ≤ sizeLine + 1 := by rw [Array.size_append]; exact hs2
    wp_walk using (wpAny_updateSeq hl rfl (hz := hs1) (_hz' := hz')), wpAny_loadPart' hl, wpAny_loadPart' hb; exact ⟨_, rfl, h⟩
def rExtT (K : PySem.W.Frag) : V → List V → Hp → VK → Prop := fun x vs H Q => ∃ (l b : Addr) (xs zs : List V), x = .ref l ∧ vs = [.ref b] ∧ H l = some (.lst xs) ∧ SqT K H b zs ∧ xs.length + zs.length ≤ sizeLine ∧ Q .non (upd H l (.lst (xs ++ zs)))
theorem mt_extT {X : Cx} : MtM X "list.extend" (rExtT X.K) := by
  intro pins s σ H x vs v us Q I rx rv h
  obtain ⟨l, b, xs, zs, rfl, rfl, hH, hB, hz, q⟩ := h
  cases rx
  obtain ⟨u, rfl, ru⟩ := rv.one
  cases ru
  obtain ⟨z, its, n, r, hl, e⟩ := I.lstM hH
  obtain ⟨its2, r2, ⟨o2, e2, c2, n2, d2⟩, hz2⟩ := I.tuple hB
  obtain ⟨oc, dd, od, sl⟩ := o2
  dsimp only at c2 d2
  subst c2 d2
  have l1 := r.length
  have l2 := r2.length
  have hsz : its.toArray.size + its2.toArray.size ≤ sizeLine := by rw [List.size_toArray, List.size_toArray]; omega
  have hlong : ¬ (!its.toArray.isEmpty && Builtin.List.listTooLong (its.toArray.size + its2.toArray.size)) = true := by
    rw [notLongL' hsz, Bool.and_false]
    exact Bool.false_ne_true
  refine call_meets F.slot_list_extend ⟨_, e, rfl⟩ F.entry_list_extend (F.args_list_extend_2 _ _)
    (list_extend_tupG l its.toArray n b its2.toArray n2 dd sl hlong (by rw [List.size_toArray]; omega) (by omega)) ⟨e, e2, ?_⟩
  refine ⟨.non, _, I.lset (its' := its ++ its2) hH e (by simp) (r.append r2) ?_, rfl, q⟩
  rw [List.length_append]
  omega
end EX2
set_option Elab.async false
set_option linter.all false
set_option maxRecDepth 100000
set_option maxHeartbeats 0
namespace K50
open PySem PySem.Spec PyProof.Rows L2 EX2
def vI : PyData → V
  | .int i => .int i
  | _ => .non
/-- a list of ints, told by data -/
def spInts (g : PyData → List PyData) : Sp := fun vs H Q _ => ∃ (x : V) (d : PyData), vs = [x] ∧ Dq H x d ∧ okD d = true ∧ insD d = true ∧ ∀ L H', Evl.Ex H H' → H L = none → H' L = some (.lst ((g d).map vI)) → Q (.ref L) H'
/-- an instruction's form -/
theorem ins_form {d : PyData} (h : insD d = true) : ∃ z ds fm, d = .tuple (.str z :: ds) ∧ K50.forms.lookup z = some fm ∧ ds.length = fm.length ∧ ∀ i, i < fm.length → fitsC (fm.cps.toList.getD i 0) (ds.getD i .none) = true := by
  cases d with
  | tuple l =>
    cases l with
    | nil => cases h
    | cons a ds =>
      cases a with
      | str z =>
        have h1 : insT z ds = true := h
        unfold insT at h1
        cases hl : K50.forms.lookup z with
        | none => rw [hl] at h1; cases h1
        | some fm =>
          rw [hl] at h1
          simp only [Bool.and_eq_true, decide_eq_true_eq, List.all_eq_true] at h1
          exact ⟨z, ds, fm, rfl, hl, h1.1.1, fun i hi => h1.1.2 i (List.mem_range.mpr hi)⟩
      | _ => cases h
  | _ => cases h
def drS (fm : Str) (ds : List PyData) (i : Nat) : List PyData := if fm.cps.toList.getD i 0 = 114 then [ds.getD i .none] else if fm.cps.toList.getD i 0 = 120 then itemsD (ds.getD i .none) else []
theorem drawT_succ (fm : Str) (ds : List PyData) (j : Nat) : (List.range (j + 1)).flatMap (drS fm ds) = (List.range j).flatMap (drS fm ds) ++ drS fm ds j := by
  rw [List.range_succ, List.flatMap_append]
  simp
theorem ints_of {H : Hp} {xs : List V} {ds : List PyData} (h : DqAll H xs ds) (hi : ∀ d ∈ ds, ∃ i, d = .int i) : xs = ds.map vI := by
  induction xs generalizing ds with
  | nil => cases h; rfl
  | cons x xs ih =>
    cases h with
    | @cons _ _ d ds h t =>
      obtain ⟨i, rfl⟩ := hi d List.mem_cons_self
      cases h
      rw [ih t fun e he => hi e (List.mem_cons_of_mem _ he)]
      rfl
theorem inR_int' {lo hi : Int} {d : PyData} (h : inR lo hi d = true) : ∃ i, d = .int i := by
  cases d with
  | int i => exact ⟨i, rfl⟩
  | _ => cases h
section
variable {P : Program} {w : World} {K : PySem.W.Frag} {mg : Str → Option Value} {base : Heap} {f : Addr} {fd : FuncData}
abbrev ndrawers : List Str := ["instruction", "found", "sign", "item"]
theorem scdrawers : FnScope ndrawers ["instruction"] (defScope sdrawers) := ⟨rfl, rfl, rfl, by decide +kernel, rfl, by decide +kernel, by decide +kernel⟩
theorem spInts_len {g : PyData → List PyData} {p : Str} : ∀ vs H Q E, spInts g vs H Q E → vs.length = [p].length := by
  rintro vs H Q E ⟨x, d, rfl, _⟩
  rfl
theorem ok_drawers (F : FnP K "drawers_in" sdrawers f fd) (D : Defs w K mg) : FnOk P w K mg base CX0 1 f fd ["instruction"] (spInts drawD) := by
  have T := D.t
  obtain ⟨es, n, kd⟩ := D.kd
  refine F.ok scdrawers spInts_len (fun cdv A outer s H vs Q E hr h => ?_)
  obtain ⟨x, d, rfl, hd, hk, hi, hQ⟩ := h
  refine ⟨_, PSs.nox (pss_cons (ps_set (i := 1) scdrawers.nd rfl (Or.inl rfl) (pe_lst pa_nil))
      (pss_cons (ps_for PassesOwn.never rfl (ZS.pi_zipS rfl T.zip (pa_cons (EX2.pe_kd kd (pe_glob rfl D.forms (v := .ref (He.ga K "FORMS")) rfl) (pe_ix ix_tup (pv 0) pe_int (fun _ _ => rfl)) (fun _ _ => rfl)) (pa_cons (pe_slice sl_tup (pv 0) (po_some pe_int) po_none) pa_nil))) (pg_tup rfl (pgs_cons (pg_name (i := 2) scdrawers.nd rfl (Or.inl rfl)) (pgs_cons (pg_name (i := 3) scdrawers.nd rfl (Or.inl rfl)) pgs_nil)))
        (pss_cons (ps_if (pt_cmpR op_eq (pv 2) pe_str (nomark _))
          (pss_one (ps_expr (pe_bm PySem.F.plainAttrs_list PySem.F.slot_list_append PySem.F.type_list_append mt_append (pv 1) (pa_cons (pv 3) pa_nil))))
          pss_nil)
        (pss_one (ps_if (pt_cmpR op_eq (pv 2) pe_str (nomark _))
          (pss_one (ps_expr (pe_bm PySem.F.plainAttrs_list PySem.F.slot_list_extend PySem.F.type_list_extend mt_extT (pv 1) (pa_cons (pv 3) pa_nil))))
          pss_nil))))
      (pss_one (ps_ret (pv 1))))), ?_⟩
  obtain ⟨z, ds, fm, rfl, hl, hlen, hfit⟩ := ins_form hi
  obtain ⟨hf1, hf2, hf3⟩ := forms_ok _ (lookup_mem hl)
  dsimp only at hf1 hf2 hf3
  obtain ⟨a, xs0, rfl, ha, hall0⟩ := hd.tupI
  cases hall0 with
  | @cons x0 xs _ _ h0 hall =>
  cases h0
  have hl1 : xs.length = ds.length := EX2.DqAll.length hall
  have hgd : drawD (.tuple (.str z :: ds)) = (List.range fm.length).flatMap (drS fm ds) := by
    show (match K50.forms.lookup z with | some fm => drawT fm ds | none => []) = _
    rw [hl]
    rfl
  rw [hgd] at hQ
  rcases D.look z with ⟨fm', tk, hl', hns⟩ | ⟨hl', _⟩
  case inr => rw [hl] at hl'; cases hl'
  have e : fm' = fm := by rw [hl] at hl'; exact (Option.some.inj hl').symm
  subst e
  refine ⟨Nat.zero_le _, fun L hL => ?_⟩
  have eL := Evl.Ex.new (o := .lst []) hL
  refine ⟨_, rfl, _, _, 0, .str z, rfl, rfl, SqT.of (eL _ _ ha), at0, z, _, .str fm', rfl, rfl, hns, ⟨tk, rfl⟩, _, rfl, _, rfl, ?_⟩
  refine ⟨_, _, rfl, SqT.of (eL _ _ ha), by rw [(cut1 _ _).2]; omega, fun p1 hp1 => ?_⟩
  rw [(cut1 _ _).1]
  have hp1s : (upd (upd H L (.lst [])) p1 (.tup xs)) p1 = some (.tup xs) := upd_same
  have e1 := Evl.Ex.new (o := .tup xs) hp1
  have hL1 := e1 _ _ (upd_same (H := H) (a := L) (o := .lst []))
  have np : p1 ≠ L := ne_of hp1s hL1 (fun z => nomatch z)
  have hp1H : H p1 = none := by rw [upd_ne np] at hp1; exact hp1
  refine ⟨fm', p1, xs, rfl, hf2, SqT.of hp1s, ?_⟩
  have eH := eL.trans e1
  generalize (upd (upd H L (.lst [])) p1 (.tup xs)) = H1 at hp1s hL1 eH
  refine for_it (ZS.walk_zipS (z := fm') (ys := xs) (n := fm'.length) ?_) (fun j σ H2 => Evl.Ex H H2 ∧ H2 p1 = some (.tup xs) ∧ H2 L = some (.lst (((List.range j).flatMap (drS fm' ds)).map vI)) ∧ ((List.range j).flatMap (drS fm' ds)).length ≤ 4 * j ∧ ∃ v2 v3, σ = [some (.ref a), some (.ref L), v2, v3])
    ⟨eH, hp1s, hL1, by simp, none, none, rfl⟩ (fun j σ H2 _ h => SqT.of h.2.1) ?_ ?_
  · show fm'.cps.size = _
    rw [hl1, hlen]
    exact (Nat.min_self _).symm
  · rintro j x σ H2 H3 hj ⟨e2, hp2, hL2, hsz, v2, v3, rfl⟩ ⟨T0, x1, y1, rfl, hT, rfl, hx1, hy1⟩
    obtain ⟨c, hc, rfl⟩ : ∃ c, fm'.cps[j]? = some c ∧ x1 = .str ⟨#[c]⟩ := by
      have hx1 : (fm'.cps[j]?.map fun c => V.str ⟨#[c]⟩) = some x1 := hx1
      cases hz : fm'.cps[j]? with
      | none => rw [hz] at hx1; cases hx1
      | some c => rw [hz] at hx1; exact ⟨c, rfl, (Option.some.inj hx1).symm⟩
    obtain ⟨dj, hdj, hxj⟩ := hall.get hy1
    have eg1 : fm'.cps.toList.getD j 0 = c := by rw [List.getD_eq_getElem?_getD, Array.getElem?_toList, hc]; rfl
    have eg2 : ds.getD j .none = dj := by rw [List.getD_eq_getElem?_getD, hdj]; rfl
    have hfj := hfit j hj
    rw [eg1, eg2] at hfj
    have eT := Evl.Ex.new (o := .tup [.str ⟨#[c]⟩, y1]) hT
    have hL3 := eT _ _ hL2
    have hp3 := eT _ _ hp2
    have e3 := e2.trans eT
    have hxj3 := hxj.ext e3
    have hdr : drS fm' ds j = if c = 114 then [dj] else if c = 120 then itemsD dj else [] := by unfold drS; rw [eg1, eg2]
    refine ⟨T0, _, rfl, SqT.of upd_same, rfl, _, _, rfl, _, _, rfl, rfl, ?_⟩
    generalize (upd H2 T0 (.tup [.str ⟨#[c]⟩, y1])) = H4 at hL3 hp3 e3 hxj3
    have npT : ∀ {us : List V}, p1 ≠ L := np
    refine ⟨_, rfl, rfl, _, rfl, ?_⟩
    rw [sg_eq (k := 114) (by decide +kernel)]
    have hszL : (((List.range j).flatMap (drS fm' ds)).map vI).length ≤ 28 := by
      rw [List.length_map]
      have : j < fm'.length := hj
      omega
    by_cases k1 : c = 114
    · rw [decide_eq_true k1]
      rw [if_pos k1] at hdr
      subst k1
      obtain ⟨i, rfl⟩ := inR_int' (show inR 0 9 dj = true from hfj)
      cases hxj3
      refine iteT ⟨_, rfl, .inl ⟨rfl, _, SqL.of hL3⟩, _, rfl, L, _, _, rfl, rfl, hL3, Nat.lt_of_le_of_lt hszL (by rw [sizeLine_eq]; decide), ?_⟩
      refine ⟨_, rfl, rfl, _, rfl, ?_⟩
      rw [sg_eq (k := 120) (by decide +kernel), decide_eq_false (by decide)]
      refine iteF ⟨e3.mut hL, by rw [upd_ne np]; exact hp3, ?_, ?_, _, _, rfl⟩
      · rw [upd_same, drawT_succ, List.map_append, hdr]
        rfl
      · rw [drawT_succ, List.length_append, hdr]
        show _ + 1 ≤ _
        omega
    · rw [decide_eq_false k1]
      rw [if_neg k1] at hdr
      refine iteF ⟨_, rfl, rfl, _, rfl, ?_⟩
      rw [sg_eq (k := 120) (by decide +kernel)]
      by_cases k2 : c = 120
      · rw [decide_eq_true k2]
        rw [if_pos k2] at hdr
        subst k2
        obtain ⟨l, rfl⟩ := fits_tup (.inl rfl) hfj
        obtain ⟨b, zs, rfl, hb, hzs⟩ := hxj3.tupI
        have hfl : (decide (l.length ≤ 4) && l.all (elC 120)) = true := hfj
        rw [Bool.and_eq_true, decide_eq_true_eq, List.all_eq_true] at hfl
        have hzl := DqAll.length hzs
        have hzi := ints_of hzs fun d hd => inR_int' (lo := 0) (hi := 9) (hfl.2 d hd)
        refine iteT ⟨_, rfl, .inl ⟨rfl, _, SqL.of hL3⟩, _, rfl, L, b, _, _, rfl, rfl, hL3, SqT.of hb, le_line (by omega), ?_⟩
        refine ⟨e3.mut hL, by rw [upd_ne np]; exact hp3, ?_, ?_, _, _, rfl⟩
        · rw [upd_same, drawT_succ, List.map_append, hdr, hzi]
          rfl
        · rw [drawT_succ, List.length_append, hdr]
          show _ + l.length ≤ _
          omega
      · rw [decide_eq_false k2]
        rw [if_neg k2] at hdr
        refine iteF ⟨e3, hp3, ?_, ?_, _, _, rfl⟩
        · rw [hL3, drawT_succ, hdr, List.append_nil]
        · rw [drawT_succ, hdr, List.append_nil]
          omega
  · rintro σ H2 ⟨e2, _, hL2, _, v2, v3, rfl⟩
    exact ⟨_, rfl, hQ L H2 e2 hL hL2⟩
theorem filt_flat {ds : List PyData} {fm : Str} (v : Nat → V) (hv : ∀ i, i < fm.length → fm.cps.toList.getD i 0 = 106 → v i = vI (ds.getD i .none)) : (((List.range fm.length).filter fun i => decide (fm.cps.toList.getD i 0 = 106)).map v) = (tgtT fm ds).map vI := by
  unfold tgtT
  have : ∀ n, n ≤ fm.length → (((List.range n).filter fun i => decide (fm.cps.toList.getD i 0 = 106)).map v) = ((List.range n).flatMap fun i => if fm.cps.toList.getD i 0 = 106 then [ds.getD i .none] else []).map vI := by
    intro n
    induction n with
    | zero => intro _; rfl
    | succ n ih =>
      intro hn
      rw [List.range_succ, List.filter_append, List.map_append, ih (by omega), List.flatMap_append, List.map_append]
      congr 1
      by_cases h : fm.cps.toList.getD n 0 = 106
      · simp only [List.filter_cons, List.filter_nil, decide_eq_true h, if_true, List.map_cons, List.map_nil, List.flatMap_cons, List.flatMap_nil, if_pos h, List.append_nil]
        rw [hv n (by omega) h]
      · simp only [List.filter_cons, List.filter_nil, decide_eq_false h, List.map_nil, List.flatMap_cons, List.flatMap_nil, if_neg h, List.append_nil, Bool.false_eq_true, if_false]
  exact this _ (Nat.le_refl _)
abbrev ntargets : List Str := ["instruction", "form", "sign", "item"]
theorem sctargets : FnScope ntargets ["instruction"] (defScope stargets) := ⟨rfl, rfl, rfl, by decide +kernel, rfl, by decide +kernel, by decide +kernel⟩
theorem ok_targets (F : FnP K "targets_in" stargets f fd) (D : Defs w K mg) : FnOk P w K mg base CX0 1 f fd ["instruction"] (spInts tgtD) := by
  have T := D.t
  obtain ⟨es, n, kd⟩ := D.kd
  refine F.ok sctargets spInts_len (fun cdv A outer s H vs Q E hr h => ?_)
  obtain ⟨x, d, rfl, hd, hk, hi, hQ⟩ := h
  refine ⟨_, PSs.nox (pss_cons (ps_set (i := 1) sctargets.nd rfl (Or.inl rfl) (EX2.pe_kd kd (pe_glob rfl D.forms (v := .ref (He.ga K "FORMS")) rfl) (pe_ix ix_tup (pv 0) pe_int (fun _ _ => rfl)) (fun _ _ => rfl)))
      (pss_one (ps_ret (pe_lc (own := [("sign", 2), ("item", 3)]) (g := gTup K 2 (gCons (gName 2) (gCons (gName 3) gNil))) rfl sctargets.nd (ZS.pi_zipS rfl T.zip (pa_cons (pv 1) (pa_cons (pe_slice sl_tup (pv 0) (po_some pe_int) po_none) pa_nil))) (blkOk_by (N := ntargets) (sc := defScope stargets) (by decide +kernel)) (fun _ _ _ _ _ => (pg_tup rfl (pgs_cons (pg_name (i := 2) sctargets.nd rfl (Or.inl rfl)) (pgs_cons (pg_name (i := 3) sctargets.nd rfl (Or.inl rfl)) pgs_nil)))) (fun _ _ _ _ _ => (pts_one (pt_cmpR op_eq (pv 2) pe_str (nomark _)))) (fun _ _ _ _ _ => (pv 3)))))), ?_⟩
  obtain ⟨z, ds, fm, rfl, hl, hlen, hfit⟩ := ins_form hi
  obtain ⟨hf1, hf2, hf3⟩ := forms_ok _ (lookup_mem hl)
  dsimp only at hf1 hf2 hf3
  obtain ⟨a, xs0, rfl, ha, hall0⟩ := hd.tupI
  cases hall0 with
  | @cons x0 xs _ _ h0 hall =>
  cases h0
  have hl1 : xs.length = ds.length := EX2.DqAll.length hall
  have hgd : tgtD (.tuple (.str z :: ds)) = tgtT fm ds := by
    show (match K50.forms.lookup z with | some fm => tgtT fm ds | none => []) = _
    rw [hl]
  rw [hgd] at hQ
  rcases D.look z with ⟨fm', tk, hl', hns⟩ | ⟨hl', _⟩
  case inr => rw [hl] at hl'; cases hl'
  have e : fm' = fm := by rw [hl] at hl'; exact (Option.some.inj hl').symm
  subst e
  refine ⟨_, rfl, _, _, 0, .str z, rfl, rfl, SqT.of ha, at0, z, _, .str fm', rfl, rfl, hns, ⟨tk, rfl⟩, ?_⟩
  refine ⟨_, rfl, _, rfl, _, rfl, _, _, rfl, SqT.of ha, by rw [(cut1 _ _).2]; omega, fun p1 hp1 => ?_⟩
  rw [(cut1 _ _).1]
  have e1 := Evl.Ex.new (o := .tup xs) hp1
  have hp1s : (upd H p1 (.tup xs)) p1 = some (.tup xs) := upd_same
  refine ⟨fm', p1, xs, rfl, hf2, SqT.of upd_same, fun D0 hD => ?_⟩
  refine EX2.lc_filt (ZS.walk_zipS (z := fm') (ys := xs) (n := fm'.length) ?_) hD (fun H' e => SqT.of (e _ _ hp1s)) (fun i => decide (fm'.cps.toList.getD i 0 = 106)) (fun i => xs.getD i .non) (Nat.le_trans hf1 (by decide)) ?_ ?_ ?_
  · show fm'.cps.size = _
    rw [hl1, hlen]
    exact (Nat.min_self _).symm
  · rintro j H3 x H4 _ _ ⟨T, x1, y1, rfl, hT, rfl, _⟩
    exact Evl.Ex.new hT
  · rintro j x H3 H4 hj e3 e4 ⟨T0, x1, y1, rfl, hT, rfl, hx1, hy1⟩ Qa Qb hQa hQb
    obtain ⟨c, hc, rfl⟩ : ∃ c, fm'.cps[j]? = some c ∧ x1 = .str ⟨#[c]⟩ := by
      have hx1 : (fm'.cps[j]?.map fun c => V.str ⟨#[c]⟩) = some x1 := hx1
      cases hz : fm'.cps[j]? with
      | none => rw [hz] at hx1; cases hx1
      | some c => rw [hz] at hx1; exact ⟨c, rfl, (Option.some.inj hx1).symm⟩
    have eg1 : fm'.cps.toList.getD j 0 = c := by rw [List.getD_eq_getElem?_getD, Array.getElem?_toList, hc]; rfl
    have eg2 : xs.getD j .non = y1 := by rw [List.getD_eq_getElem?_getD, show xs[j]? = some y1 from hy1]; rfl
    rw [eg1] at hQa hQb
    rw [eg2] at hQa
    refine ⟨T0, _, rfl, SqT.of upd_same, rfl, _, _, rfl, _, _, rfl, rfl, ?_⟩
    refine ⟨rfl, _, rfl, rfl, _, rfl, ?_⟩
    rw [sg_eq (k := 106) (by decide +kernel)]
    cases hb : decide (c = 106) with
    | true => exact iteT ⟨_, rfl, hQa _ (Evl.Ex.refl _) hb⟩
    | false => exact iteF (hQb _ (Evl.Ex.refl _) hb)
  · intro H3 e3 hD3
    have hDH : H D0 = none := by
      rw [upd_ne (by rintro rfl; rw [upd_same] at hD; cases hD)] at hD
      exact hD
    refine hQ D0 H3 (e1.trans e3) hDH ?_
    rw [hD3, filt_flat (ds := ds)]
    intro i hi h106
    have hds : i < ds.length := by omega
    obtain ⟨x, hx, hxd⟩ := hall.getD (List.getElem?_eq_getElem hds)
    have hfi := hfit i hi
    rw [h106] at hfi
    have egd : ds.getD i .none = ds[i] := by rw [List.getD_eq_getElem?_getD, List.getElem?_eq_getElem hds]; rfl
    rw [egd] at hfi ⊢
    obtain ⟨k, hk2⟩ := inR_int' (show inR 0 39 ds[i] = true from hfi)
    rw [hk2] at hxd ⊢
    cases hxd
    rw [List.getD_eq_getElem?_getD, hx]
    rfl
end
end K50
set_option Elab.async false
set_option linter.all false
set_option maxRecDepth 100000
set_option maxHeartbeats 0
namespace K50
open PySem PySem.Spec PyProof.Rows L2 EX2
def itemsOf : PyData → List PyData
  | .list ds => ds
  | .tuple ds => ds
  | _ => []
def codeOk (m : Int) (n : Nat) (e : PyData) : Bool := (drawD e).all (ltD m) && (tgtD e).all (ltD n)
def codeD (m : Int) (d : PyData) : Bool := seqD 40 d && decide ((itemsOf d).length ≠ 0) && (itemsOf d).all insD && (itemsOf d).all (codeOk m (itemsOf d).length)
def spCode : Sp := fun vs H Q _ => ∃ (x : V) (d : PyData) (m : Int), vs = [x, .int m] ∧ Dq H x d ∧ okD d = true ∧ ∀ H', Evl.Ex H H' → Q (.bl (codeD m d)) H'
theorem drS_ok {fm : Str} {ds : List PyData} {i : Nat} (h : fitsC (fm.cps.toList.getD i 0) (ds.getD i .none) = true) : (∀ e ∈ drS fm ds i, ∃ k, e = .int k) ∧ (drS fm ds i).length ≤ 4 := by
  unfold drS
  by_cases k1 : fm.cps.toList.getD i 0 = 114
  · rw [if_pos k1]
    rw [k1] at h
    obtain ⟨k, hk⟩ := inR_int' (show inR 0 9 _ = true from h)
    exact ⟨fun e he => by rw [List.mem_singleton] at he; exact ⟨k, he.trans hk⟩, by simp⟩
  · rw [if_neg k1]
    by_cases k2 : fm.cps.toList.getD i 0 = 120
    · rw [if_pos k2]
      rw [k2] at h
      obtain ⟨l, hl⟩ := fits_tup (.inl rfl) h
      rw [hl] at h ⊢
      have hfl : (decide (l.length ≤ 4) && l.all (elC 120)) = true := h
      rw [Bool.and_eq_true, decide_eq_true_eq, List.all_eq_true] at hfl
      exact ⟨fun e he => inR_int' (lo := 0) (hi := 9) (hfl.2 e he), hfl.1⟩
    · rw [if_neg k2]
      exact ⟨fun e he => (nomatch he), by simp⟩
theorem flat_len {f : Nat → List PyData} {n c : Nat} (h : ∀ i, i < n → (f i).length ≤ c) : ((List.range n).flatMap f).length ≤ c * n := by
  induction n with
  | zero => simp
  | succ n ih =>
    rw [List.range_succ, List.flatMap_append, List.length_append]
    have h1 := ih fun i hi => h i (by omega)
    have h2 := h n (by omega)
    simp only [List.flatMap_cons, List.flatMap_nil, List.append_nil]
    rw [Nat.mul_succ]
    omega
section
variable {d : PyData}
theorem draw_eq {z fm : Str} {ds : List PyData} (hl : K50.forms.lookup z = some fm) : drawD (.tuple (.str z :: ds)) = (List.range fm.length).flatMap (drS fm ds) := by
  show (match K50.forms.lookup z with | some fm => drawT fm ds | none => []) = _
  rw [hl]
  rfl
theorem draw_int (h : insD d = true) : ∀ e ∈ drawD d, ∃ k, e = .int k := by
  obtain ⟨z, ds, fm, rfl, hl, hlen, hfit⟩ := ins_form h
  rw [draw_eq hl]
  intro e he
  obtain ⟨i, hi, he⟩ := List.mem_flatMap.mp he
  exact (drS_ok (hfit i (List.mem_range.mp hi))).1 e he
theorem draw_len (h : insD d = true) : (drawD d).length ≤ 28 := by
  obtain ⟨z, ds, fm, rfl, hl, hlen, hfit⟩ := ins_form h
  rw [draw_eq hl]
  have h1 := (forms_ok _ (lookup_mem hl)).1
  have h2 := flat_len (n := fm.length) (c := 4) (fun i hi => (drS_ok (hfit i hi)).2)
  dsimp only at h1
  omega
def tgS (fm : Str) (ds : List PyData) (i : Nat) : List PyData := if fm.cps.toList.getD i 0 = 106 then [ds.getD i .none] else []
theorem tgt_eq {z fm : Str} {ds : List PyData} (hl : K50.forms.lookup z = some fm) : tgtD (.tuple (.str z :: ds)) = (List.range fm.length).flatMap (tgS fm ds) := by
  show (match K50.forms.lookup z with | some fm => tgtT fm ds | none => []) = _
  rw [hl]
  rfl
theorem tgS_ok {fm : Str} {ds : List PyData} {i : Nat} (h : fitsC (fm.cps.toList.getD i 0) (ds.getD i .none) = true) : (∀ e ∈ tgS fm ds i, ∃ k, e = .int k) ∧ (tgS fm ds i).length ≤ 1 := by
  unfold tgS
  by_cases k1 : fm.cps.toList.getD i 0 = 106
  · rw [if_pos k1]
    rw [k1] at h
    obtain ⟨k, hk⟩ := inR_int' (show inR 0 39 _ = true from h)
    exact ⟨fun e he => by rw [List.mem_singleton] at he; exact ⟨k, he.trans hk⟩, by simp⟩
  · rw [if_neg k1]
    exact ⟨fun e he => (nomatch he), by simp⟩
theorem tgt_int (h : insD d = true) : ∀ e ∈ tgtD d, ∃ k, e = .int k := by
  obtain ⟨z, ds, fm, rfl, hl, hlen, hfit⟩ := ins_form h
  rw [tgt_eq hl]
  intro e he
  obtain ⟨i, hi, he⟩ := List.mem_flatMap.mp he
  exact (tgS_ok (hfit i (List.mem_range.mp hi))).1 e he
theorem tgt_len (h : insD d = true) : (tgtD d).length ≤ 28 := by
  obtain ⟨z, ds, fm, rfl, hl, hlen, hfit⟩ := ins_form h
  rw [tgt_eq hl]
  have h1 := (forms_ok _ (lookup_mem hl)).1
  have h2 := flat_len (n := fm.length) (c := 1) (fun i hi => (tgS_ok (hfit i hi)).2)
  dsimp only at h1
  omega
end
section
variable {P : Program} {w : World} {K : PySem.W.Frag} {mg : Str → Option Value} {base : Heap} {f : Addr} {fd : FuncData}
abbrev ncode : List Str := ["value", "size", "item", "drawer", "target"]
theorem sccode : FnScope ncode ["value", "size"] (defScope scode) := ⟨rfl, rfl, rfl, by decide +kernel, rfl, by decide +kernel, by decide +kernel⟩
theorem ok_code (F : FnP K "is_code" scode f fd) (D : Defs w K mg) : FnOk P w K mg base CX0 5 f fd ["value", "size"] spCode := by
  have T := D.t
  obtain ⟨tC, gC⟩ := D.code40
  obtain ⟨fI, fdI, gI, FI⟩ := D.is_instruction
  have GI : FnOk P w K mg base CX0 4 fI fdI ["value"] (spD insD) := ok_ins FI D
  have bI : Binds K fdI ["value"] [] := FI.bindsN fun _ _ _ _ _ _ us hl => match us, hl with | [_], _ => rfl
  obtain ⟨fS, fdS, gS, FS⟩ := D.is_sequence
  have GS : FnOk P w K mg base CX0 1 fS fdS ["obj", "most"] spSeq := ok_seq FS D
  have bS : Binds K fdS ["obj", "most"] [] := FS.bindsN fun _ _ _ _ _ _ us hl => match us, hl with | [_, _], _ => rfl
  obtain ⟨fR, fdR, gR, FR⟩ := D.drawers_in
  have GR : FnOk P w K mg base CX0 1 fR fdR ["instruction"] (spInts drawD) := ok_drawers FR D
  have bR : Binds K fdR ["instruction"] [] := FR.bindsN fun _ _ _ _ _ _ us hl => match us, hl with | [_], _ => rfl
  obtain ⟨fT, fdT, gT, FT⟩ := D.targets_in
  have GT : FnOk P w K mg base CX0 1 fT fdT ["instruction"] (spInts tgtD) := ok_targets FT D
  have bT : Binds K fdT ["instruction"] [] := FT.bindsN fun _ _ _ _ _ _ us hl => match us, hl with | [_], _ => rfl
  refine F.ok sccode (fun vs H Q E h => ?_) (fun cdv A outer s H vs Q E hr h => ?_)
  · obtain ⟨x, d, m, rfl, _⟩ := h
    rfl
  · obtain ⟨x, d, m, rfl, hd, hk, hQ⟩ := h
    refine ⟨_, PSs.nox (pss_cons (ps_if (PW.pt (pw_or (pt_not (pt_val (pe_call GS (hr.mono (by decide)) rfl gS FS.kp bS .nil pass0 (pa_cons (pv 0) (pa_cons (pe_glob rfl gC (v := .int 40) ⟨tC, rfl⟩) pa_nil))))) (pw_or (pt_cmpR op_eq (pe_callB call_len rfl T.len boot_len (pa_cons (pv 0) pa_nil)) pe_int (nomark _)) (pw_or1 (pt_not (pt_val (pe_callB (cr_all rfl) rfl T.all boot_all (pa_cons (pe_lc (own := [("item", 2)]) (g := gName 2) (tt := tYes) rfl sccode.nd (pi_seqq (pv 0)) (blkOk_by (N := ncode) (sc := defScope scode) (by decide +kernel)) (fun _ _ _ _ _ => (pg_name (i := 2) sccode.nd rfl (Or.inl rfl))) (fun _ _ _ _ _ => pts_nil) (fun _ _ _ _ _ => (pe_call GI (hr.mono (by decide)) rfl gI FI.kp bI .nil pass0 (pa_cons (pv 2) pa_nil)))) pa_nil))))))))
        (pss_one (ps_ret pe_bl))
        pss_nil)
      (pss_cons (ps_for PassesOwn.never rfl (pi_seqq (pv 0)) (pg_name (i := 2) sccode.nd rfl (Or.inl rfl))
        (pss_cons (ps_if (pt_val (pe_callB (cr_any rfl) rfl T.any boot_any (pa_cons (pe_lc (own := [("drawer", 3)]) (g := gName 3) (tt := tYes) rfl sccode.nd (pi_list (pe_call GR (hr.mono (by decide)) rfl gR FR.kp bR .nil pass0 (pa_cons (pv 2) pa_nil))) (blkOk_by (N := ncode) (sc := defScope scode) (by decide +kernel)) (fun _ _ _ _ _ => (pg_name (i := 3) sccode.nd rfl (Or.inl rfl))) (fun _ _ _ _ _ => pts_nil) (fun _ _ _ _ _ => (pe_cmpR op_ge (pv 3) (pv 1) (nomark _)))) pa_nil)))
          (pss_one (ps_ret pe_bl))
          pss_nil)
        (pss_one (ps_if (pt_val (pe_callB (cr_any rfl) rfl T.any boot_any (pa_cons (pe_lc (own := [("target", 4)]) (g := gName 4) (tt := tYes) rfl sccode.nd (pi_list (pe_call GT (hr.mono (by decide)) rfl gT FT.kp bT .nil pass0 (pa_cons (pv 2) pa_nil))) (blkOk_by (N := ncode) (sc := defScope scode) (by decide +kernel)) (fun _ _ _ _ _ => (pg_name (i := 4) sccode.nd rfl (Or.inl rfl))) (fun _ _ _ _ _ => pts_nil) (fun _ _ _ _ _ => (pe_cmpR op_ge (pv 4) (pe_callB (r := rLen K) call_len rfl T.len boot_len (pa_cons (pv 0) pa_nil)) (nomark _)))) pa_nil)))
          (pss_one (ps_ret pe_bl))
          pss_nil))))
      (pss_one (ps_ret pe_bl)))), ?_⟩
    refine ⟨_, rfl, x, d, 40, rfl, hd, fun H0 e0 => ⟨_, rfl, ?_⟩⟩
    cases hsq : seqD 40 d with
    | false =>
      have q := hQ H0 e0
      rw [show codeD m d = false from by unfold codeD; rw [hsq]; rfl] at q
      exact iteT q
    | true =>
    cases d with
    | list ds =>
      obtain ⟨a, xs, rfl, ha, hall⟩ := hd.lstI
      have hl : xs.length = ds.length := DqAll.length hall
      have hS : SqL K H a xs := SqL.of ha
      refine iteF ⟨_, rfl, _, _, rfl, .inl ⟨_, SqL.of (e0 _ _ ha), rfl⟩, rfl, _, rfl, ?_⟩
      have q1 : ∀ H', Evl.Ex H0 H' → Q (.bl (codeD m (.list ds))) H' := fun H' e => hQ H' (e0.trans e)
      have ec : codeD m (.list ds) = (decide (ds.length ≠ 0) && ds.all insD && ds.all (codeOk m ds.length)) := by
        show (seqD 40 (.list ds) && decide (ds.length ≠ 0) && ds.all insD && ds.all (codeOk m ds.length)) = _
        rw [hsq, Bool.true_and]
      rw [ec] at q1
      by_cases hz : ds.length = 0
      · rw [show decide (V.int ((xs.length : Nat) : Int) = V.int 0) = true from decide_eq_true (by rw [hl, hz]; rfl)]
        rw [show decide (ds.length ≠ 0) = false from decide_eq_false (by simp [hz]), Bool.false_and, Bool.false_and] at q1
        exact iteT (q1 _ (Evl.Ex.refl _))
      rw [show decide (V.int ((xs.length : Nat) : Int) = V.int 0) = false from decide_eq_false (fun z => by have := V.int.inj z; omega)]
      rw [show decide (ds.length ≠ 0) = true from decide_eq_true hz, Bool.true_and] at q1
      have hle : ds.length ≤ 40 := by
        have : decide ((ds.length : Int) ≤ 40) = true := hsq
        have := of_decide_eq_true this
        omega
      have hkd : ∀ e ∈ ds, okD e = true := okAll_mem hk
      have ha0 := e0 _ _ ha
      have hall0 := hall.ext e0
      refine iteF ⟨_, rfl, _, rfl, .inl ⟨⟨_, SqL.of ha0⟩, fun D1 hD1 => ?_⟩⟩
      refine EX2.lc_map (walk_list (xs := xs)) hD1 (fun H' e => SqL.of (e _ _ ha0)) (fun j => .bl (insD (ds.getD j .none))) (by omega) (fun j H3 x H4 _ _ y => by rw [y.1]; exact Evl.Ex.refl _) ?_ ?_
      · rintro j x H3 H4 hj e3 _ ⟨rfl, hx⟩ Qt hQt
        obtain ⟨dj, hdj, hxj⟩ := hall0.get hx
        have egd : ds.getD j .none = dj := by rw [List.getD_eq_getElem?_getD, hdj]; rfl
        rw [egd] at hQt
        exact ⟨rfl, _, rfl, x, dj, rfl, hxj.ext e3, hkd dj (List.mem_of_getElem? hdj), hQt⟩
      intro H1 e1 hD1s
      refine ⟨D1, (List.range xs.length).map fun j => insD (ds.getD j .none), rfl, SqL.of ?_, ?_⟩
      · rw [hD1s, List.map_map]
        rfl
      rw [hl, EX2.map_range_get ds insD _ (fun i e he => by rw [List.getD_eq_getElem?_getD, he]; rfl), List.all_map, show (id ∘ insD) = insD from rfl]
      have q2 := fun H' e => q1 H' (e1.trans e)
      cases hins : ds.all insD with
      | false =>
        rw [hins, Bool.false_and] at q2
        exact ⟨_, rfl, iteT (q2 _ (Evl.Ex.refl _))⟩
      | true =>
      rw [hins, Bool.true_and] at q2
      refine ⟨_, rfl, iteF ?_⟩
      have ha1 := e1 _ _ ha0
      have hall1 := hall0.ext e1
      have hin : ∀ e ∈ ds, insD e = true := List.all_eq_true.mp hins
      refine ⟨_, rfl, _, rfl, .inl ⟨⟨_, SqL.of ha1⟩, ?_⟩⟩
      refine for_it (walk_list (xs := xs)) (fun j σ H2 => Evl.Ex H1 H2 ∧ (∀ i e, i < j → ds[i]? = some e → codeOk m ds.length e = true) ∧ ∃ v2, σ = [some (.ref a), some (.int m), v2, none, none]) ⟨Evl.Ex.refl _, fun i e hi => absurd hi (Nat.not_lt_zero _), none, rfl⟩ (fun j σ H2 _ h => SqL.of (h.1 _ _ ha1)) ?_ ?_
      · rintro j x σ H2 H3 hj ⟨e2, hpre, v2, rfl⟩ ⟨rfl, hx⟩
        obtain ⟨dj, hdj, hxj⟩ := hall1.get hx
        have hkj := hkd dj (List.mem_of_getElem? hdj)
        have hij := hin dj (List.mem_of_getElem? hdj)
        have hbad : codeOk m ds.length dj = false → ds.all (codeOk m ds.length) = false := fun h => by
          rw [Bool.eq_false_iff]
          intro z
          have := List.all_eq_true.mp z dj (List.mem_of_getElem? hdj)
          rw [h] at this
          cases this
        refine ⟨_, rfl, x, dj, rfl, hxj.ext e2, hkj, hij, fun L H4 e4 hL hLs => ?_⟩
        refine ⟨L, rfl, ⟨_, SqL.of hLs⟩, fun D2 hD2 => ?_⟩
        refine EX2.lc_map (walk_list (xs := (drawD dj).map vI)) hD2 (fun H' e => SqL.of (e _ _ hLs)) (fun i => .bl (!ltD m ((drawD dj).getD i .none))) (by rw [List.length_map]; exact Nat.le_trans (draw_len hij) (by decide)) (fun i H3 x H4 _ _ y => by rw [y.1]; exact Evl.Ex.refl _) ?_ ?_
        · rintro i y H5 H6 hi e5 _ ⟨rfl, hy⟩ Qt hQt
          rw [List.getElem?_map] at hy
          obtain ⟨di, hdi, rfl⟩ : ∃ di, (drawD dj)[i]? = some di ∧ y = vI di := by
            cases hz : (drawD dj)[i]? with
            | none => rw [hz] at hy; cases hy
            | some di => rw [hz] at hy; exact ⟨di, rfl, (Option.some.inj hy).symm⟩
          obtain ⟨k, rfl⟩ := draw_int hij di (List.mem_of_getElem? hdi)
          have egd : (drawD dj).getD i .none = .int k := by rw [List.getD_eq_getElem?_getD, hdi]; rfl
          rw [egd] at hQt
          refine ⟨rfl, _, rfl, _, rfl, _, _, rfl, rfl, ?_⟩
          have : (decide (k ≥ m)) = !ltD m (.int k) := by show decide (k ≥ m) = !decide (k < m); rw [← decide_not]; exact decide_eq_decide.mpr (by omega)
          rw [← this] at hQt
          exact hQt _ (Evl.Ex.refl _)
        intro H5 e5 hD2s
        refine ⟨D2, (List.range ((drawD dj).map vI).length).map fun i => !ltD m ((drawD dj).getD i .none), rfl, SqL.of (by rw [hD2s, List.map_map]; rfl), ?_⟩
        rw [List.length_map, EX2.map_range_get (drawD dj) (fun e => !ltD m e) _ (fun i e he => by rw [List.getD_eq_getElem?_getD, he]; rfl)]
        have ea : ((drawD dj).map fun e => !ltD m e).any id = !(drawD dj).all (ltD m) := by rw [List.any_map, List.not_all_eq_any_not]; rfl
        rw [ea]
        have e05 := (e2.trans e4).trans e5
        cases hda : (drawD dj).all (ltD m) with
        | false =>
          have := hbad (by unfold codeOk; rw [hda, Bool.false_and])
          rw [this] at q2
          exact ⟨_, rfl, iteT (q2 _ e05)⟩
        | true =>
        refine ⟨_, rfl, iteF ?_⟩
        refine ⟨_, rfl, x, dj, rfl, hxj.ext e05, hkj, hij, fun L2 H6 e6 hL2 hL2s => ?_⟩
        have e06 := e05.trans e6
        refine ⟨L2, rfl, ⟨_, SqL.of hL2s⟩, fun D3 hD3 => ?_⟩
        refine EX2.lc_map (walk_list (xs := (tgtD dj).map vI)) hD3 (fun H' e => SqL.of (e _ _ hL2s)) (fun i => .bl (!ltD ds.length ((tgtD dj).getD i .none))) (by rw [List.length_map]; exact Nat.le_trans (tgt_len hij) (by decide)) (fun i H3 x H4 _ _ y => by rw [y.1]; exact Evl.Ex.refl _) ?_ ?_
        · rintro i y H7 H8 hi e7 _ ⟨rfl, hy⟩ Qt hQt
          rw [List.getElem?_map] at hy
          obtain ⟨di, hdi, rfl⟩ : ∃ di, (tgtD dj)[i]? = some di ∧ y = vI di := by
            cases hz : (tgtD dj)[i]? with
            | none => rw [hz] at hy; cases hy
            | some di => rw [hz] at hy; exact ⟨di, rfl, (Option.some.inj hy).symm⟩
          obtain ⟨k, rfl⟩ := tgt_int hij di (List.mem_of_getElem? hdi)
          have egd : (tgtD dj).getD i .none = .int k := by rw [List.getD_eq_getElem?_getD, hdi]; rfl
          rw [egd] at hQt
          refine ⟨rfl, _, rfl, _, rfl, _, _, rfl, .inl ⟨_, SqL.of ((e06.trans e7) _ _ ha1), rfl⟩, _, _, rfl, rfl, ?_⟩
          rw [hl]
          have : (decide (k ≥ (ds.length : Int))) = !ltD ds.length (.int k) := by show decide (k ≥ (ds.length : Int)) = !decide (k < (ds.length : Int)); rw [← decide_not]; exact decide_eq_decide.mpr (by omega)
          rw [← this] at hQt
          exact hQt _ (Evl.Ex.refl _)
        intro H7 e7 hD3s
        refine ⟨D3, (List.range ((tgtD dj).map vI).length).map fun i => !ltD ds.length ((tgtD dj).getD i .none), rfl, SqL.of (by rw [hD3s, List.map_map]; rfl), ?_⟩
        rw [List.length_map, EX2.map_range_get (tgtD dj) (fun e => !ltD ds.length e) _ (fun i e he => by rw [List.getD_eq_getElem?_getD, he]; rfl)]
        have ea : ((tgtD dj).map fun e => !ltD ds.length e).any id = !(tgtD dj).all (ltD ds.length) := by rw [List.any_map, List.not_all_eq_any_not]; rfl
        rw [ea]
        have e07 := e06.trans e7
        cases hta : (tgtD dj).all (ltD ds.length) with
        | false =>
          have := hbad (by unfold codeOk; rw [hta, Bool.and_false])
          rw [this] at q2
          exact ⟨_, rfl, iteT (q2 _ e07)⟩
        | true =>
        refine ⟨_, rfl, iteF ⟨e07, fun i e hi he => ?_, _, rfl⟩⟩
        by_cases hij2 : i = j
        · subst hij2
          rw [hdj] at he
          cases he
          unfold codeOk
          rw [hda, hta]
          rfl
        · exact hpre i e (by omega) he
      · rintro σ H2 ⟨e2, hpre, v2, rfl⟩
        have := q2 H2 e2
        rw [show ds.all (codeOk m ds.length) = true from List.all_eq_true.mpr fun e he => by
          obtain ⟨i, hi⟩ := List.mem_iff_getElem?.mp he
          exact hpre i e (by rw [hl]; exact (List.getElem?_eq_some_iff.mp hi).1) hi] at this
        exact this
    | tuple ds =>
      obtain ⟨a, xs, rfl, ha, hall⟩ := hd.tupI
      have hl : xs.length = ds.length := DqAll.length hall
      have hS : SqT K H a xs := SqT.of ha
      refine iteF ⟨_, rfl, _, _, rfl, .inr ⟨_, SqT.of (e0 _ _ ha), rfl⟩, rfl, _, rfl, ?_⟩
      have q1 : ∀ H', Evl.Ex H0 H' → Q (.bl (codeD m (.tuple ds))) H' := fun H' e => hQ H' (e0.trans e)
      have ec : codeD m (.tuple ds) = (decide (ds.length ≠ 0) && ds.all insD && ds.all (codeOk m ds.length)) := by
        show (seqD 40 (.tuple ds) && decide (ds.length ≠ 0) && ds.all insD && ds.all (codeOk m ds.length)) = _
        rw [hsq, Bool.true_and]
      rw [ec] at q1
      by_cases hz : ds.length = 0
      · rw [show decide (V.int ((xs.length : Nat) : Int) = V.int 0) = true from decide_eq_true (by rw [hl, hz]; rfl)]
        rw [show decide (ds.length ≠ 0) = false from decide_eq_false (by simp [hz]), Bool.false_and, Bool.false_and] at q1
        exact iteT (q1 _ (Evl.Ex.refl _))
      rw [show decide (V.int ((xs.length : Nat) : Int) = V.int 0) = false from decide_eq_false (fun z => by have := V.int.inj z; omega)]
      rw [show decide (ds.length ≠ 0) = true from decide_eq_true hz, Bool.true_and] at q1
      have hle : ds.length ≤ 40 := by
        have : decide ((ds.length : Int) ≤ 40) = true := hsq
        have := of_decide_eq_true this
        omega
      have hkd : ∀ e ∈ ds, okD e = true := okAll_mem hk
      have ha0 := e0 _ _ ha
      have hall0 := hall.ext e0
      refine iteF ⟨_, rfl, _, rfl, .inr ⟨⟨_, SqT.of ha0⟩, fun D1 hD1 => ?_⟩⟩
      refine EX2.lc_map (walk_tup (xs := xs)) hD1 (fun H' e => SqT.of (e _ _ ha0)) (fun j => .bl (insD (ds.getD j .none))) (by omega) (fun j H3 x H4 _ _ y => by rw [y.1]; exact Evl.Ex.refl _) ?_ ?_
      · rintro j x H3 H4 hj e3 _ ⟨rfl, hx⟩ Qt hQt
        obtain ⟨dj, hdj, hxj⟩ := hall0.get hx
        have egd : ds.getD j .none = dj := by rw [List.getD_eq_getElem?_getD, hdj]; rfl
        rw [egd] at hQt
        exact ⟨rfl, _, rfl, x, dj, rfl, hxj.ext e3, hkd dj (List.mem_of_getElem? hdj), hQt⟩
      intro H1 e1 hD1s
      refine ⟨D1, (List.range xs.length).map fun j => insD (ds.getD j .none), rfl, SqL.of ?_, ?_⟩
      · rw [hD1s, List.map_map]
        rfl
      rw [hl, EX2.map_range_get ds insD _ (fun i e he => by rw [List.getD_eq_getElem?_getD, he]; rfl), List.all_map, show (id ∘ insD) = insD from rfl]
      have q2 := fun H' e => q1 H' (e1.trans e)
      cases hins : ds.all insD with
      | false =>
        rw [hins, Bool.false_and] at q2
        exact ⟨_, rfl, iteT (q2 _ (Evl.Ex.refl _))⟩
      | true =>
      rw [hins, Bool.true_and] at q2
      refine ⟨_, rfl, iteF ?_⟩
      have ha1 := e1 _ _ ha0
      have hall1 := hall0.ext e1
      have hin : ∀ e ∈ ds, insD e = true := List.all_eq_true.mp hins
      refine ⟨_, rfl, _, rfl, .inr ⟨⟨_, SqT.of ha1⟩, ?_⟩⟩
      refine for_it (walk_tup (xs := xs)) (fun j σ H2 => Evl.Ex H1 H2 ∧ (∀ i e, i < j → ds[i]? = some e → codeOk m ds.length e = true) ∧ ∃ v2, σ = [some (.ref a), some (.int m), v2, none, none]) ⟨Evl.Ex.refl _, fun i e hi => absurd hi (Nat.not_lt_zero _), none, rfl⟩ (fun j σ H2 _ h => SqT.of (h.1 _ _ ha1)) ?_ ?_
      · rintro j x σ H2 H3 hj ⟨e2, hpre, v2, rfl⟩ ⟨rfl, hx⟩
        obtain ⟨dj, hdj, hxj⟩ := hall1.get hx
        have hkj := hkd dj (List.mem_of_getElem? hdj)
        have hij := hin dj (List.mem_of_getElem? hdj)
        have hbad : codeOk m ds.length dj = false → ds.all (codeOk m ds.length) = false := fun h => by
          rw [Bool.eq_false_iff]
          intro z
          have := List.all_eq_true.mp z dj (List.mem_of_getElem? hdj)
          rw [h] at this
          cases this
        refine ⟨_, rfl, x, dj, rfl, hxj.ext e2, hkj, hij, fun L H4 e4 hL hLs => ?_⟩
        refine ⟨L, rfl, ⟨_, SqL.of hLs⟩, fun D2 hD2 => ?_⟩
        refine EX2.lc_map (walk_list (xs := (drawD dj).map vI)) hD2 (fun H' e => SqL.of (e _ _ hLs)) (fun i => .bl (!ltD m ((drawD dj).getD i .none))) (by rw [List.length_map]; exact Nat.le_trans (draw_len hij) (by decide)) (fun i H3 x H4 _ _ y => by rw [y.1]; exact Evl.Ex.refl _) ?_ ?_
        · rintro i y H5 H6 hi e5 _ ⟨rfl, hy⟩ Qt hQt
          rw [List.getElem?_map] at hy
          obtain ⟨di, hdi, rfl⟩ : ∃ di, (drawD dj)[i]? = some di ∧ y = vI di := by
            cases hz : (drawD dj)[i]? with
            | none => rw [hz] at hy; cases hy
            | some di => rw [hz] at hy; exact ⟨di, rfl, (Option.some.inj hy).symm⟩
          obtain ⟨k, rfl⟩ := draw_int hij di (List.mem_of_getElem? hdi)
          have egd : (drawD dj).getD i .none = .int k := by rw [List.getD_eq_getElem?_getD, hdi]; rfl
          rw [egd] at hQt
          refine ⟨rfl, _, rfl, _, rfl, _, _, rfl, rfl, ?_⟩
          have : (decide (k ≥ m)) = !ltD m (.int k) := by show decide (k ≥ m) = !decide (k < m); rw [← decide_not]; exact decide_eq_decide.mpr (by omega)
          rw [← this] at hQt
          exact hQt _ (Evl.Ex.refl _)
        intro H5 e5 hD2s
        refine ⟨D2, (List.range ((drawD dj).map vI).length).map fun i => !ltD m ((drawD dj).getD i .none), rfl, SqL.of (by rw [hD2s, List.map_map]; rfl), ?_⟩
        rw [List.length_map, EX2.map_range_get (drawD dj) (fun e => !ltD m e) _ (fun i e he => by rw [List.getD_eq_getElem?_getD, he]; rfl)]
        have ea : ((drawD dj).map fun e => !ltD m e).any id = !(drawD dj).all (ltD m) := by rw [List.any_map, List.not_all_eq_any_not]; rfl
        rw [ea]
        have e05 := (e2.trans e4).trans e5
        cases hda : (drawD dj).all (ltD m) with
        | false =>
          have := hbad (by unfold codeOk; rw [hda, Bool.false_and])
          rw [this] at q2
          exact ⟨_, rfl, iteT (q2 _ e05)⟩
        | true =>
        refine ⟨_, rfl, iteF ?_⟩
        refine ⟨_, rfl, x, dj, rfl, hxj.ext e05, hkj, hij, fun L2 H6 e6 hL2 hL2s => ?_⟩
        have e06 := e05.trans e6
        refine ⟨L2, rfl, ⟨_, SqL.of hL2s⟩, fun D3 hD3 => ?_⟩
        refine EX2.lc_map (walk_list (xs := (tgtD dj).map vI)) hD3 (fun H' e => SqL.of (e _ _ hL2s)) (fun i => .bl (!ltD ds.length ((tgtD dj).getD i .none))) (by rw [List.length_map]; exact Nat.le_trans (tgt_len hij) (by decide)) (fun i H3 x H4 _ _ y => by rw [y.1]; exact Evl.Ex.refl _) ?_ ?_
        · rintro i y H7 H8 hi e7 _ ⟨rfl, hy⟩ Qt hQt
          rw [List.getElem?_map] at hy
          obtain ⟨di, hdi, rfl⟩ : ∃ di, (tgtD dj)[i]? = some di ∧ y = vI di := by
            cases hz : (tgtD dj)[i]? with
            | none => rw [hz] at hy; cases hy
            | some di => rw [hz] at hy; exact ⟨di, rfl, (Option.some.inj hy).symm⟩
          obtain ⟨k, rfl⟩ := tgt_int hij di (List.mem_of_getElem? hdi)
          have egd : (tgtD dj).getD i .none = .int k := by rw [List.getD_eq_getElem?_getD, hdi]; rfl
          rw [egd] at hQt
          refine ⟨rfl, _, rfl, _, rfl, _, _, rfl, .inr ⟨_, SqT.of ((e06.trans e7) _ _ ha1), rfl⟩, _, _, rfl, rfl, ?_⟩
          rw [hl]
          have : (decide (k ≥ (ds.length : Int))) = !ltD ds.length (.int k) := by show decide (k ≥ (ds.length : Int)) = !decide (k < (ds.length : Int)); rw [← decide_not]; exact decide_eq_decide.mpr (by omega)
          rw [← this] at hQt
          exact hQt _ (Evl.Ex.refl _)
        intro H7 e7 hD3s
        refine ⟨D3, (List.range ((tgtD dj).map vI).length).map fun i => !ltD ds.length ((tgtD dj).getD i .none), rfl, SqL.of (by rw [hD3s, List.map_map]; rfl), ?_⟩
        rw [List.length_map, EX2.map_range_get (tgtD dj) (fun e => !ltD ds.length e) _ (fun i e he => by rw [List.getD_eq_getElem?_getD, he]; rfl)]
        have ea : ((tgtD dj).map fun e => !ltD ds.length e).any id = !(tgtD dj).all (ltD ds.length) := by rw [List.any_map, List.not_all_eq_any_not]; rfl
        rw [ea]
        have e07 := e06.trans e7
        cases hta : (tgtD dj).all (ltD ds.length) with
        | false =>
          have := hbad (by unfold codeOk; rw [hta, Bool.and_false])
          rw [this] at q2
          exact ⟨_, rfl, iteT (q2 _ e07)⟩
        | true =>
        refine ⟨_, rfl, iteF ⟨e07, fun i e hi he => ?_, _, rfl⟩⟩
        by_cases hij2 : i = j
        · subst hij2
          rw [hdj] at he
          cases he
          unfold codeOk
          rw [hda, hta]
          rfl
        · exact hpre i e (by omega) he
      · rintro σ H2 ⟨e2, hpre, v2, rfl⟩
        have := q2 H2 e2
        rw [show ds.all (codeOk m ds.length) = true from List.all_eq_true.mpr fun e he => by
          obtain ⟨i, hi⟩ := List.mem_iff_getElem?.mp he
          exact hpre i e (by rw [hl]; exact (List.getElem?_eq_some_iff.mp hi).1) hi] at this
        exact this
    | _ => cases hsq
end
end K50
set_option Elab.async false
set_option linter.all false
set_option maxRecDepth 100000
set_option maxHeartbeats 4000000
/-! an instance's attributes as targets of a tuple assignment; data beside an instance -/
namespace EX2
open PySem PySem.Spec PyProof.Rows L2
def gFld (K : PySem.W.Frag) (f : Str) (to : TE) : TG := fun y σ H Q => to σ H fun x H2 => ∃ (a C dx : Addr) (fs : List (Str × V)), x = .ref a ∧ H2 a = some (.ins C dx fs) ∧ Cls K C ∧ NoAttr K C f ∧ fs.length < 1000 ∧ Q σ (upd H2 a (.ins C dx (putF f y fs)))
theorem pg_fld {X : Cx} {o : Expr} {to : TE} {f : Str} {p : Pos} (ho : PE X o to) : PG X (.Attribute o f p) (gFld X.K f to) := by
  refine ⟨fun pins s σ H v u Q I r h => ?_⟩
  refine PySem.W.kas_attr (thn (ho.run pins s σ H _ I h) fun ov s2 ⟨x, H2, I2, r2, a, C, dx, fs, ex, ea, c, n, l, q⟩ => ?_)
  subst ex
  obtain rfl : ov = Value.ref a := r2
  exact setattr_ok I2 ea c n l r fun s3 I3 => ⟨σ, _, I3, q⟩
theorem no_swap3 {env : Env} (hk : env.scope.kind = .function) {o1 o2 o3 : Expr} {a1 a2 a3 : Str} {q1 q2 q3 q4 : Pos} {n1 : Nat} {v : Expr} : swappedStores [.Tuple [.Attribute o1 a1 q1, .Attribute o2 a2 q2, .Attribute o3 a3 q3] n1 q4] v env = pure none := by
  have e : env.blockKind = .function := by
    unfold Env.blockKind
    rw [hk]
    rfl
  unfold swappedStores
  cases v <;> first | rfl | skip
  rename_i vs _ _
  simp only [e]
  split
  · rfl
  · split
    · rfl
    · rename_i h
      split
      · rfl
      · rename_i h2
        exact absurd (by rfl) h2
section
variable {H H' : Hp} {a C dx : Addr} {fs : List (Str × V)}
mutual
theorem Dq.fr (ha : H a = some (.ins C dx fs)) (k : ∀ b o, b ≠ a → H b = some o → H' b = some o) : ∀ {x : V} {d : PyData}, Dq H x d → Dq H' x d
  | _, _, .non => .non
  | _, _, .bl b => .bl b
  | _, _, .int i => .int i
  | _, _, .str x => .str x
  | _, _, .lst q h => .lst (k _ _ (ne_of q ha (fun z => nomatch z)) q) (DqAll.fr ha k h)
  | _, _, .tup q h => .tup (k _ _ (ne_of q ha (fun z => nomatch z)) q) (DqAll.fr ha k h)
  | _, _, .dk q h => .dk (k _ _ (ne_of q ha (fun z => nomatch z)) q) (DqAll.fr ha k h)
theorem DqAll.fr (ha : H a = some (.ins C dx fs)) (k : ∀ b o, b ≠ a → H b = some o → H' b = some o) : ∀ {xs : List V} {ds : List PyData}, DqAll H xs ds → DqAll H' xs ds
  | _, _, .nil => .nil
  | _, _, .cons h t => .cons (Dq.fr ha k h) (DqAll.fr ha k t)
end
end
/-- a method's object -/
structure MethAt (C : Addr) (H : Hp) (m : V) (n : V) (ps : List PyData) (r : V) (sz : V) (cd : List PyData) : Prop where
  ex : ∃ (x dx : Addr) (p c : V), m = .ref x ∧ H x = some (.ins C dx [("own_name", n), ("own_params", p), ("own_result", r), ("own_size", sz), ("own_code", c)]) ∧ Dq H p (.tuple ps) ∧ Dq H c (.tuple cd)
theorem MethAt.ext {C : Addr} {H H' : Hp} {m n r sz : V} {ps cd : List PyData} (h : MethAt C H m n ps r sz cd) (e : Evl.Ex H H') : MethAt C H' m n ps r sz cd := by
  obtain ⟨x, dx, p, c, h1, h2, h3, h4⟩ := h.ex
  exact ⟨x, dx, p, c, h1, e _ _ h2, h3.ext e, h4.ext e⟩
end EX2
set_option Elab.async false
set_option linter.all false
set_option maxRecDepth 100000
set_option maxHeartbeats 2000000
/-! raising an own exception with a super().__init__; an own class made in a try; isinstance of the caught one -/
namespace EX2
open PySem PySem.Spec PyProof.Rows L2
/-- raise C(e, ..) -/
def tMkR (C : Addr) (n : Nat) (fs : List V → List (Str × V)) (ta : TA) : L2.St → Hp → XK → Prop := fun σ H Q => ta σ H fun vs H1 => vs.length = n ∧ ∀ (dx : Addr) (H' : Hp), Evl.Ex H1 H' → H' dx = some (.xd (fs vs)) → Q (.ref C) (some dx) H'
section
variable {X : Cx} {e : Expr} {es : List Expr} {ta : TA} {p pos : Pos}
theorem pmk_xk {x : Str} {C fI : Addr} {k n : Nat} {fd : FuncData} {ps : List Str} {fs : List V → List (Str × V)} (T : ExK X.K C) (iC : PySem.W.findIn X.K (.ref C) "__init__" = some (some (.ref fI))) (tI : PySem.W.typeIn X.K (.ref fI) = some (.type "function"))
    (F1 : FnOk X.prog X.w X.K X.mg X.base CX0 k fI fd ps (spX C n fs)) (hr : Room (k + 1) X.A) (hb : Binds X.K fd ps []) (hg : Gl X x) (hm : X.mg x = some (.ref C)) (hn : n ≤ 1000) (ha : PA X (e :: es) ta)
    (hdb : (x == ("__debug__" : Str)) = false := by decide) (he : starEach (e :: es) X.env = (false, eval e X.env) :: starEach es X.env := by rfl) (hpl : (backTo pos (starEach es X.env)).any (·.1) = false := by rfl) :
    PMk X (.Call (.Name x p) (e :: es) [] pos) (tMkR C n fs ta) := by
  intro pins s σ H Q I h
  refine wpAny_Call_Name_kw (ld_glob I hg hm ?_ hdb)
  refine PySem.W.callWith_K (h₀ := X.base) I.ok.mod.kin T.kC (thn (ha.run pos pins s σ H _ I h) fun us s1 ⟨vs, H1, I1, r1, hz, q1⟩ => ⟨I1.kIn, ?_⟩) he hpl
  show wpAny _ _ (call (.ref C) us) _ _ _
  obtain ⟨nm, Nn, qd, bs, bm, hdct, sn, sub, ab, col, dd, k0, k1, k2, k3, k5, hC, hT⟩ := PySem.W.excInit_of I1.kIn T.init
  obtain ⟨hp, g, dr, tk, os⟩ := s1
  have hsz : hp.objs.size ≤ hp.objs.size + 1 := Nat.le_succ _
  have hn1 : H1 (hp.objs.size + 1) = none := I1.hok.fresh hsz
  have kk : ∀ b o, hp.get? b = some o → ((hp.push (PySem.W.kdv_tup us)).push (PySem.HandSPX.excO C hp.objs.size)).get? b = some o := fun b o e => Heap.get?_push_of_some _ (Heap.get?_push_of_some _ e)
  have hget : ((hp.push (PySem.W.kdv_tup us)).push (PySem.HandSPX.excO C hp.objs.size)).get? (hp.objs.size + 1) = some (PySem.HandSPX.excO C hp.objs.size) := by heap_get
  have I2 : Inv X pins σ (upd H1 (hp.objs.size + 1) (exo (hp.objs.size + 1) C none)) ⟨(hp.push (PySem.W.kdv_tup us)).push (PySem.HandSPX.excO C hp.objs.size), g, dr, tk, os⟩ :=
    I1.laid (t' := tk) (a := hp.objs.size + 1) (o := exo (hp.objs.size + 1) C none) (h' := (hp.push (PySem.W.kdv_tup us)).push (PySem.HandSPX.excO C hp.objs.size)) kk hsz (exo_ok hget)
  have r2 : Vals (V.ref (hp.objs.size + 1) :: vs) (Value.ref (hp.objs.size + 1) :: us) := .cons rfl r1
  have hus : us.length ≤ sizeLine := by
    rw [← Paired.length r1, hz, sizeLine_eq]
    omega
  have hsp : spX C n fs (V.ref (hp.objs.size + 1) :: vs) (upd H1 (hp.objs.size + 1) (exo (hp.objs.size + 1) C none)) (fun v H2 => v = .non ∧ ∃ d, H2 (hp.objs.size + 1) = some (exo (hp.objs.size + 1) C (some d)) ∧ H2 d = some (exd d (fs vs)) ∧ H1 d = none ∧
      Q (.ref C) (some d) (upd (L2.del H2 (hp.objs.size + 1)) d (.xd (fs vs)))) (fun _ _ _ => False) := by
    refine ⟨_, vs, rfl, hz, upd_same, fun H' dx k1 hd hne h1 h2 => ⟨rfl, dx, h1, h2, ?_, ?_⟩⟩
    · rw [upd_ne hne] at hd
      exact hd
    · rw [upd_ne hne] at hd
      refine q1 dx _ (fun b o hb => ?_) upd_same
      have hba : b ≠ hp.objs.size + 1 := ne_of_none hb hn1
      rw [upd_ne (ne_of_none hb hd), L2.del_ne hba]
      refine k1 b o hba ?_
      rw [upd_ne hba]
      exact hb
  have hlen := F1.len _ _ _ _ hsp
  have hbt := hb ⟨(hp.push (PySem.W.kdv_tup us)).push (PySem.HandSPX.excO C hp.objs.size), g, dr, tk, os⟩ (Value.ref (hp.objs.size + 1) :: us) I2.kIn (by rw [List.append_nil, ← r2.length]; exact hlen)
  rw [List.append_nil] at hbt
  refine wpAny_call (PySem.HandSPX.call_own F.excBase_Exception hT hC (PySem.W.looks_findIn I1.kIn iC) (fun self => PySem.W.bind_fn I1.kIn self tI) hus
    (codeAny_mono (F1.run _ X.stack _ _ ⟨Value.ref (hp.objs.size + 1) :: us, []⟩ (Value.ref (hp.objs.size + 1) :: us) _ _ (fun _ _ _ => False) (hr.make C us []) (I2.env0.make C us []) hbt r2 hsp) fun r s' hq' => ?_))
  cases r with
  | error er => exact False.elim hq'
  | ok fl =>
    cases fl with
    | ret u =>
      obtain ⟨v, H2, os2, bare2, un2, hok2, rv, ev, d, ea, ed, hd1, q2⟩ := hq'
      subst ev
      obtain ⟨h2, g2, d2, t2, os'⟩ := s'
      exact ⟨rv, mk_end (raises_own T.exC T.tyC) I1 hsz kk un2 hok2 os2 bare2 ea ed hd1 q2⟩
    | next => exact False.elim hq'
    | brk => exact False.elim hq'
    | cont => exact False.elim hq'
end
/-! ### a class made, at the slots σ -/
section
variable {X : Cx} {CX : CXT} {k : Nat} {f C : Addr} {fd : FuncData} {ps : List Str} {sp : Sp} {E : L2.St → XK} {x : Str} {p pos : Pos} {e : Expr} {es : List Expr} {t : TA}
def tMakeS (C : Addr) (sp : Sp) (E : L2.St → XK) (t : TA) : TE := fun σ H Q => t σ H fun vs H1 => ∀ x dx, H1 x = none → H1 dx = none → dx ≠ x → sp (.ref x :: vs) (upd (upd H1 dx (.own x)) x (.ins C dx [])) (fun v H2 => v = .non ∧ Q (.ref x) H2) (E σ)
theorem pe_makeS (M : Mk X.K C f) (F : FnOk X.prog X.w X.K X.mg X.base CX k f fd ps sp) (hr : Room (k + 1) X.A) (hg : Gl X x) (hm : X.mg x = some (.ref C)) (hb : Binds X.K fd ps []) (hx : ∀ σ, PassesAt CX X σ (E σ))
    (ha : PA X (e :: es) t) (hdb : (x == ("__debug__" : Str)) = false := by decide) (he : starEach (e :: es) X.env = (false, eval e X.env) :: starEach es X.env := by rfl) (hpl : (backTo pos (starEach es X.env)).any (·.1) = false := by rfl) :
    PE X (.Call (.Name x p) (e :: es) [] pos) (tMakeS C sp E t) := by
  refine ⟨fun pins s σ H Q I h => ?_⟩
  refine wpAny_Call_Name_kw (ld_glob I hg hm ?_ hdb)
  refine PySem.W.callWith_K (h₀ := X.base) I.ok.mod.kin M.kp (thn (ha.run pos pins s σ H _ I h) fun us s1 ⟨vs, H1, I1, r, q⟩ => ⟨I1.kIn, ?_⟩) he hpl
  have hq := q (s1.heap.objs.size + 1) s1.heap.objs.size (I1.hok.fresh (Nat.le_succ _)) (I1.hok.fresh (Nat.le_refl _)) (Nat.ne_of_lt (Nat.lt_succ_self _))
  have I2 := Inv.made (C := C) I1
  have r2 : Vals (V.ref (s1.heap.objs.size + 1) :: vs) (Value.ref (s1.heap.objs.size + 1) :: us) := .cons rfl r
  have hl : (Value.ref (s1.heap.objs.size + 1) :: us).length = ps.length := by
    have e := r2.length
    rw [F.len _ _ _ _ hq] at e
    exact e.symm
  have hbt := hb _ (Value.ref (s1.heap.objs.size + 1) :: us) I2.kIn (by rw [List.append_nil]; exact hl)
  rw [List.append_nil] at hbt
  refine wpAny_call (make_map (f := f) I1.kIn M.makes M.init (beq_iff_eq.mp M.fn) (codeAny_mono (F.run _ X.stack _ _ ⟨Value.ref (s1.heap.objs.size + 1) :: us, []⟩ (Value.ref (s1.heap.objs.size + 1) :: us) _ _ (E σ) (hr.make C us [])
    (I2.env0.make C us []) hbt r2 hq) fun r s' hq' => ?_))
  cases r with
  | error e => exact hx σ pins _ _ e s' I2 hq'
  | ok fl =>
    cases fl with
    | ret u =>
      obtain ⟨v, H', I3, rv, ev, q3⟩ := I2.after hq'
      subst ev
      exact ⟨rv, ⟨V.ref (s1.heap.objs.size + 1), H', I3, rfl, q3⟩⟩
    | next => exact False.elim hq'
    | brk => exact False.elim hq'
    | cont => exact False.elim hq'
end
/-- isinstance(e, c), e the caught exception with its dict -/
def rIsXE (K : PySem.W.Frag) (a : Addr) (cls : Value) (d : Option Addr) : List V → Hp → VK → Prop := fun xs H Q => ∃ (C dd : Addr) (fs : List (Str × V)) (c : V) (u : Value) (b : Bool), xs = [.ref a, c] ∧ ClsV c u ∧ cls = .ref C ∧ d = some dd ∧ H dd = some (.xd fs) ∧ ExcC K C ∧ PySem.W.kitOne K (.ref C) u = some b ∧ Q (.bl b) H
theorem call_isXE {X : Cx} {a : Addr} {oe : Obj} {cls : Value} {d : Option Addr} {pn : List (Addr × Obj)} (hz : Zc cls d oe) (hf : ∃ vs, oe.data = .fields vs) : CallR (X.suite a ((a, oe) :: pn)) (.builtin "isinstance") (rIsXE X.K a cls d) := by
  intro pins s σ H xs us Q I r h
  obtain ⟨C, dd, fs, c, u, b, rfl, k, ec, ed, hd, T, e, q⟩ := h
  subst ec ed
  obtain ⟨u1, u2, rfl, r1, r2⟩ := vals2 r
  have e2 := k.eq r2
  subst e2
  obtain rfl : u1 = Value.ref a := r1
  obtain ⟨hget, _⟩ := I.pin (a, oe) (List.mem_append.mpr (.inl List.mem_cons_self))
  obtain ⟨vs, hv⟩ := hf
  obtain ⟨mA, hns, rel⟩ : ObjOk X.prog X.w H s.heap dd (.xd fs) := I.hok dd _ hd
  obtain ⟨od, hod, hl⟩ := lookIn_ns hns
  have J : PySem.W.InstAt s.heap a oe C (some od) := by
    obtain ⟨oc, odd, oda, osl⟩ := oe
    obtain ⟨h1, h2⟩ := hz
    dsimp only at h1 h2 hv
    subst h1 h2 hv
    exact ⟨hget, rfl, rfl, hod⟩
  exact PySem.W.kia_one (PySem.W.kitx_excD T.hg T.hk T.hs T.hd T.ha T.hn T.ht T.hm) I.kIn J e (fun z => nomatch z) fun tk => ⟨.bl b, H, I.tok tk, rfl, q⟩
end EX2
set_option Elab.async false
set_option linter.all false
set_option maxRecDepth 100000
set_option maxHeartbeats 2000000
/-! x == y, x an instance of a class with its own == -/
namespace EX2
open PySem PySem.Spec PyProof.Rows L2
def rEqI (C : Addr) (sp : Sp) : R2 := fun x y H Q => ∃ (a dx : Addr) (fs : List (Str × V)) (b : Addr), x = .ref a ∧ y = .ref b ∧ H a = some (.ins C dx fs) ∧ ((∃ dy gs, H b = some (.ins C dy gs)) ∨ ∃ xs, H b = some (.lst xs)) ∧
  sp [.ref a, .ref b] H (fun v H' => ∃ r, v = .bl r ∧ Q (.bl r) H') E0
theorem op_eqI {X : Cx} {C f : Addr} {n : Nat} {fd : FuncData} {ps : List Str} {sp : Sp} (F : FnOk X.prog X.w X.K X.mg X.base CX0 n f fd ps sp) (hs : PySem.W.findIn X.K (.ref C) "__eq__" = some (some (.ref f))) (hf : PySem.W.isFn X.K (.ref f) = true) (hb : Binds X.K fd ps []) (hr : Room n X.A) :
    OpR X (compareOp .Eq) (rEqI C sp) := by
  intro pins s σ H x y v u Q I rx ry h
  obtain ⟨a, dx, fs, b, rfl, rfl, ha, hb', hsp⟩ := h
  cases rx
  cases ry
  show wpAny (model X.prog X.w) X.A (richCompare .Eq (.ref a) (.ref b)) (EP X pins σ Q) X.xe s
  obtain ⟨mA, J, _⟩ := ins_get I.hok ha
  obtain ⟨od, J, _⟩ := J.look
  obtain ⟨m, hF⟩ := I.fr
  have hy : ∃ tb, PySem.W.Looks (model X.prog X.w) s.heap (typeOf (.ref b)) tb ∧ PySem.W.notFirst X.K C tb = true := by
    rcases hb' with ⟨dy, gs, hb'⟩ | ⟨xs, hb'⟩
    · obtain ⟨mB, J', _⟩ := ins_get I.hok hb'
      obtain ⟨od', J', _⟩ := J'.look
      exact ⟨.ref C, J'.type, by simp [PySem.W.notFirst]⟩
    · obtain ⟨_, its, nn, _, hg⟩ : ObjOk X.prog X.w H s.heap b (.lst xs) := I.hok b _ hb'
      exact ⟨.type "list", fun A Q E s k q => wpAny_typeOf_ref (k _ _ hg) q, by
        have e : PySem.W.subIn X.K (.type "list") (.ref C) = some false := by
          show Option.map (fun x => x.contains (Value.ref C)) (fastBuiltinMro "list") = some false
          rw [show fastBuiltinMro "list" = some [.type "list", .type "object"] from by kernel_rfl]
          rfl
        unfold PySem.W.notFirst
        rw [e]
        rfl⟩
  obtain ⟨tb, LT, hn⟩ := hy
  refine PySem.W.cmp_K (op := .Eq) (tb := tb) hr.units0 hF I.ok.mod.kin J LT hn hs hf ?_
  have hl := F.len _ _ _ _ hsp
  have r2 : Vals [V.ref a, V.ref b] [Value.ref a, Value.ref b] := .cons rfl (.cons rfl .nil)
  refine wpAny_call (codeAny_mono (F.run X.A X.stack s H ⟨[.ref a, .ref b], []⟩ [.ref a, .ref b] [.ref a, .ref b] _ E0 hr I.env0 (by
    have := hb s [.ref a, .ref b] I.kIn (by simpa using hl)
    simpa using this) r2 hsp) fun r s' hq => ?_)
  cases r with
  | error e => exact hq.elim
  | ok fl =>
    cases fl with
    | ret w =>
      obtain ⟨z, H', I', rz, r, ez, q⟩ := I.after hq
      subst ez
      cases rz
      exact ⟨.bl r, H', I', rfl, q⟩
    | next => exact False.elim hq
    | brk => exact False.elim hq
    | cont => exact False.elim hq
end EX2
set_option Elab.async false
set_option linter.all false
set_option maxRecDepth 100000
set_option maxHeartbeats 4000000
/-! a dict of one pair, its key a tuple of texts and ints; repr of data or of such a dict; the heap before a source -/
namespace EX2
open PySem PySem.Spec PyProof.Rows L2
/-- {k: v}, k a tuple of ints and texts -/
def tDisT (tk tv : TE) : TE := fun σ H Q => ∀ p, H p = none → tPairs [(tk, tv)] σ (upd H p (.dT [])) fun ps H2 => H2 p = some (.dT []) ∧ ∃ (b : Addr) (ks : List Key) (y : V), ps = [(.ref b, y)] ∧ H2 b = some (.tup (ks.map kV)) ∧ Q (.ref p) (upd H2 p (.dT [(ks, y)]))
theorem pe_disT {X : Cx} {pos : Pos} {k v : Expr} {tk tv : TE} (hu : X.A.units + 1 < cLine) (hk : PE X k tk) (hv : PE X v tv) : PE X (.Dict [some k] [v] pos) (tDisT tk tv) := by
  refine ⟨fun pins s σ H Q I q => ?_⟩
  have hn := I.hok.fresh (Nat.le_refl s.heap.objs.size)
  have I1 := I.laid (a := s.heap.objs.size) (o := .dT []) (h' := s.heap.push { cls := .type "dict", data := .dict #[] }) (t' := s.toks) (fun _ _ q => Heap.get?_push_of_some _ q) (Nat.le_refl _) (dt_empty s.heap I.big)
  have hpp : PPs X pos [some k] [v] [(tk, tv)] := pps_cons hk hv pps_nil
  have q0 := q _ hn
  rw [arm_eval_Dict, zip_pairTrees [some k] [v] X.env pos rfl rfl, dictDisplay_pairs (pairTrees [some k] [v] X.env pos) (by simp [pairTrees]) (by simp [pairTrees])]
  refine wpAny_bind (wpAny_standAt (wpAny_bind (wpAny_subDictH (knd := tupleKind (mixKind X.prog X.w)) (Q := fun d s' => wpAny (model X.prog X.w) X.A (pure (Value.ref d)) (EP X pins σ Q) X.xe s') ?_ (by simp [pairTrees]) ?_)))
  · exact Nat.lt_of_succ_lt hu
  refine thn (hpp.run pins _ σ _ _ I1 q0) ?_
  rintro ws s2 ⟨ps, H2, I2, rel, e, b, ks, y, rfl, eb, q2⟩
  cases rel with
  | cons h t =>
    cases t
    rename_i wv
    obtain ⟨w1, w2⟩ := wv
    obtain ⟨r1, r2⟩ := h
    obtain rfl : w1 = Value.ref b := r1
    obtain ⟨z, hd, xs, rx, dd⟩ := dt_of I2.hok e
    cases rx
    refine ⟨[(ks, b, w2)], ⟨rfl, rfl, key_of I2.hok eb, trivial⟩, dd, fun h' tk dd' hs => ?_⟩
    obtain ⟨q, es, ep, hq, h2, h3, h4, _, h5⟩ := dd'
    refine wpAny_pure ⟨.ref s.heap.objs.size, _, ?_, rfl, q2⟩
    refine d_write (t' := tk) I2 (by rw [e]; exact True.intro) hs ⟨q, hq⟩ ⟨by rw [sizeLine_eq]; simp, hd, [(ks, b, w2)], .cons ⟨rfl, ?_, r2⟩ .nil, q, es, ep, hq, h2, h3, h4, h5⟩
    rw [upd_ne (ne_of eb e (fun z => nomatch z))]
    exact eb
/-- the dict of one pair as data -/
def tdD (ks : List Key) (d : PyData) : PyData := .dict [(.tuple (ks.map kD), d)]
/-- data, or the dict of one pair whose key is a tuple -/
inductive Dw (H : Hp) : V → PyData → Prop
  | q {x : V} {d : PyData} (h : Dq H x d) : Dw H x d
  | t {a : Addr} {ks : List Key} {y : V} {d : PyData} (e : H a = some (.dT [(ks, y)])) (h : Dq H y d) : Dw H (.ref a) (tdD ks d)
theorem Dw.ext {H H' : Hp} (e : Evl.Ex H H') {x : V} {d : PyData} (h : Dw H x d) : Dw H' x d := by
  cases h with
  | q h => exact .q (h.ext e)
  | t a h => exact .t (e _ _ a) (h.ext e)
theorem keysD (H : Hp) : ∀ ks : List Key, DqAll H (ks.map kV) (ks.map kD)
  | [] => .nil
  | .inl i :: l => .cons (.int i) (keysD H l)
  | .inr x :: l => .cons (.str x) (keysD H l)
theorem Dw.reads {P : Program} {w : World} {H : Hp} {h : Heap} (ok : HOk P w H h) (sd : SysD h) {a : Addr} {ks : List Key} {y : V} {d : PyData} (e : H a = some (.dT [(ks, y)])) (q : Dq H y d) : ∃ as, Reads h (.ref a) (tdD ks d) as ∧ sysModules ∉ as := by
  obtain ⟨hz, hs, vs, rk, o, es, ep, h1, h2, h3, h4, _⟩ := (show ObjOk P w H h a (.dT [(ks, y)]) from ok a _ e)
  cases rk with
  | @cons _ x _ _ hh t =>
    cases t
    obtain ⟨k', b, v'⟩ := x
    obtain ⟨e1, e2, e3⟩ : ks = k' ∧ H b = some (.tup (ks.map kV)) ∧ L2.RelV y v' := hh
    cases e1
    obtain ⟨as, r1, n1⟩ := Dq.reads ok sd (.ref b) (.tup e2 (keysD H ks)) rfl
    obtain ⟨bs, r2, n2⟩ := Dq.reads ok sd v' q e3
    refine ⟨_, .dict h1 h2.1 h3 (as := as ++ []) (bs := bs ++ []) ?_ ?_, fun z => ?_⟩
    · rw [h4]
      exact .cons r1 .nil
    · rw [h4]
      exact .cons r2 .nil
    · rcases List.mem_cons.mp (show sysModules ∈ a :: (as ++ [] ++ (bs ++ [])) from z) with z | z
      · rw [z] at hs
        simp at hs
      · simp at z
        exact z.elim n1 n2
/-! ### repr of it -/
def rReprW : List V → Hp → VK → Prop := fun xs H Q => ∃ (x : V) (d : PyData), xs = [x] ∧ Dw H x d ∧ d.showable = true ∧ d.shown.length ≤ sizeLine ∧ d.depth ≤ 60 ∧ Q (.str d.shown) H
theorem call_reprW {X : Cx} (hg : X.A.guards = some []) (hu : X.A.units + 65 < cLine) (sd : SysD X.base) : CallR X (.builtin "repr") rReprW := by
  intro pins s σ H xs us Q I r h
  obtain ⟨x, d, rfl, hd, hs, hz, hdp, q⟩ := h
  cases hd with
  | q hd => exact call_reprD hg hu sd pins s σ H _ us Q I r ⟨x, d, rfl, hd, hs, hz, hdp, q⟩
  | @t a ks y d e hq =>
    obtain ⟨u, rfl, r1⟩ := vals1 r
    have sd1 : SysD s.heap := by
      obtain ⟨o, es, n, h1, h2⟩ := sd
      exact ⟨o, es, n, I.bk _ _ h1, h2⟩
    obtain ⟨as, rd, hn⟩ := Dw.reads I.hok sd1 e hq
    obtain rfl : u = Value.ref a := r1
    exact repr_of_reads' rd hs (fun _ => hn) hg (by omega) (fun _ _ e => e) (fun h' u tk k => ⟨.str _, H, I.kept (t' := tk) k, ⟨_, rfl⟩, q⟩) hz
/-! ### the heap before a source -/
theorem Lx.back {p : Addr} {H H1 H' : Hp} {o : HO} (hp : H p = none) (l : Lx p (upd H p o) H') : Evl.Ex H H' := fun b u e => by
  have nb : b ≠ p := by rintro rfl; rw [hp] at e; cases e
  exact l.at (by rw [upd_ne nb]; exact e) nb
theorem ok_get {P : Program} {w : World} {K : PySem.W.Frag} {mg : Str → Option Value} {base : Heap} {f : Addr} {fd : FuncData} {C : Addr} {name qual x : Str} {params : Arguments} {body : List Stmt} {scope : Scope} {N : List Str} {p1 p2 p3 : Pos}
    (F : FunD K name qual params body scope [] [] f fd) (S : FnScope N ["self"] scope) (hN : N[0]? = some ("self" : Str)) (hb : body = [.Return (some (.Attribute (.Name "self" p1) x p2)) p3]) (c : Cls K C) (n : NoAttr K C x) : FnOk P w K mg base CX0 1 f fd ["self"] (getSp C x) := by
  refine F.ok S (fun vs H Q E h => ?_) (fun cdv A outer s H vs Q E hr h => ?_)
  · obtain ⟨a, dx, fs, v, e, _⟩ := h
    rw [e]
    rfl
  · obtain ⟨a, dx, fs, v, e, ea, l, q⟩ := h
    subst e
    subst hb
    refine ⟨_, PSs.nox (pss_one (ps_ret (pe_fld (pe_var (i := 0) hN ((S.par "self" (List.Mem.head _)).elim (fun z => .inl z) (fun z => .inr (.inl z)))) rfl))), ?_⟩
    exact ⟨.ref a, rfl, a, C, dx, fs, v, rfl, ea, c, n, l, q⟩
/-- two promises of one function -/
theorem FnOk.both {P : Program} {w : World} {K : PySem.W.Frag} {mg : Str → Option Value} {base : Heap} {CX : CXT} {k : Nat} {f : Addr} {fd : FuncData} {ps : List Str} {sp sp' : Sp} (F : FnOk P w K mg base CX k f fd ps sp) (F' : FnOk P w K mg base CX k f fd ps sp') :
    FnOk P w K mg base CX k f fd ps (fun vs H Q E => sp vs H Q E ∨ sp' vs H Q E) :=
  ⟨fun vs H Q E h => h.elim (F.len vs H Q E) (F'.len vs H Q E), fun A outer s H args us vs Q E hr e0 hb r h => h.elim (F.run A outer s H args us vs Q E hr e0 hb r) (F'.run A outer s H args us vs Q E hr e0 hb r)⟩
end EX2
set_option Elab.async false
set_option linter.all false
set_option maxRecDepth 100000
set_option maxHeartbeats 0
namespace K50
open PySem PySem.Spec PyProof.Rows L2 EX2
abbrev sInit : Stmt := inClass (top 25) 0
abbrev sParts : Stmt := inClass (top 25) 6
abbrev sEq : Stmt := inClass (top 25) 7
/-- a method's class: what the head says -/
structure MethF (K : PySem.W.Frag) (mg : Str → Option Value) : Prop where
  hm : mg "Method" = some (.ref (He.ga K "Method"))
  mkr : Mk K (He.ga K "Method") (He.ma K (He.ga K "Method") "__init__")
  cl : Cls K (He.ga K "Method")
  n1 : NoAttr K (He.ga K "Method") "own_name"
  n2 : NoAttr K (He.ga K "Method") "own_params"
  n3 : NoAttr K (He.ga K "Method") "own_result"
  n4 : NoAttr K (He.ga K "Method") "own_size"
  n5 : NoAttr K (He.ga K "Method") "own_code"
  pm : Meth K (He.ga K "Method") "parts" (He.ma K (He.ga K "Method") "parts")
  em : Meth K (He.ga K "Method") "__eq__" (He.ma K (He.ga K "Method") "__eq__")
  parts : ∃ fd, FunD K "parts" "Method.parts" (defArgs sParts) (defBody sParts) (defScope sParts) [] [] (He.ma K (He.ga K "Method") "parts") fd
  eq : ∃ fd, FunD K "__eq__" "Method.__eq__" (defArgs sEq) (defBody sEq) (defScope sEq) [] [] (He.ma K (He.ga K "Method") "__eq__") fd
  init : ∃ fd, FunD K "__init__" "Method.__init__" (defArgs sInit) (defBody sInit) (defScope sInit) [] [] (He.ma K (He.ga K "Method") "__init__") fd
/-- the exception's class -/
structure ExcF (P : Program) (w : World) (K : PySem.W.Frag) (mg : Str → Option Value) (base : Heap) : Prop where
  hm : mg "InvalidMethod" = some (.ref (He.ga K "InvalidMethod"))
  hB : mg "ClassError" = some (.ref (He.ga K "ClassError"))
  g : ClsG K (He.ga K "InvalidMethod") (He.ga K "ClassError") (ini K "InvalidMethod") ["given"]
  fn : ∃ fd, FnOk P w K mg base CX0 1 (ini K "InvalidMethod") fd ["self", "given"] (spX (He.ga K "InvalidMethod") 1 fun xs => [("given", xs.headD .non)]) ∧ Binds K fd ["self", "given"] []
  cB : ((PySem.W.clsIn K (He.ga K "ClassError")).isSome && PySem.W.typeIn K (.ref (He.ga K "ClassError")) == some (.type "type")) = true
/-- right parts -/
structure PartsOk (H : Hp) (n p r z c : V) (dn : PyData) (dp : PyData) (dr : PyData) (sz : Int) (dc : PyData) : Prop where
  hn : Dq H n dn
  hp : Dq H p dp
  hr : Dq H r dr
  hz : z = .int sz
  hc : Dq H c dc
  on : okD dn = true
  op : okD dp = true
  or : okD dr = true
  oc : okD dc = true
  kn : nameD dn = true
  kp : seqD 4 dp = true
  kt : (itemsOf dp).all typeD = true
  kr : typeD dr = true
  kz : inR (1 + (itemsOf dp).length) 10 (.int sz) = true
  kc : codeD sz dc = true
theorem PartsOk.ext {H H' : Hp} {n p r z c : V} {dn dp dr dc : PyData} {sz : Int} (h : PartsOk H n p r z c dn dp dr sz dc) (e : Evl.Ex H H') : PartsOk H' n p r z c dn dp dr sz dc :=
  { h with hn := h.hn.ext e, hp := h.hp.ext e, hr := h.hr.ext e, hc := h.hc.ext e }
def mfields (n p r z c : V) : List (Str × V) := [("own_name", n), ("own_params", p), ("own_result", r), ("own_size", z), ("own_code", c)]
def spInit (C : Addr) : Sp := fun vs H Q _ => ∃ (a dx : Addr) (n p r z c : V) (dn dp dr dc : PyData) (sz : Int), vs = [.ref a, n, p, r, z, c] ∧ H a = some (.ins C dx []) ∧ PartsOk H n p r z c dn dp dr sz dc ∧
  ∀ (H' : Hp) (p' c' : V), (∀ b o, b ≠ a → H b = some o → H' b = some o) → H' a = some (.ins C dx (mfields n p' r z c')) → Dq H' p' (.tuple (itemsOf dp)) → Dq H' c' (.tuple (itemsOf dc)) → Q .non H'
theorem seq_sq {K : PySem.W.Frag} {H : Hp} {x : V} {d : PyData} {m : Int} (h : Dq H x d) (k : seqD m d = true) : ∃ a xs, x = .ref a ∧ (H a = some (.lst xs) ∨ H a = some (.tup xs)) ∧ DqAll H xs (itemsOf d) ∧ ((itemsOf d).length : Int) ≤ m := by
  cases d with
  | list ds =>
    obtain ⟨a, xs, rfl, ha, hall⟩ := h.lstI
    exact ⟨a, xs, rfl, .inl ha, hall, of_decide_eq_true k⟩
  | tuple ds =>
    obtain ⟨a, xs, rfl, ha, hall⟩ := h.tupI
    exact ⟨a, xs, rfl, .inr ha, hall, of_decide_eq_true k⟩
  | _ => cases k
theorem okAll_items {d : PyData} (h : okD d = true) : okAll (itemsOf d) = true := by
  cases d with
  | list ds => exact h
  | tuple ds => exact h
  | _ => rfl
theorem seqq_of {K : PySem.W.Frag} {H : Hp} {a : Addr} {xs : List V} (h : H a = some (.lst xs) ∨ H a = some (.tup xs)) {R : It → Hp → Prop} (q : ∀ J, Walk J xs.length (fun H' => H' a = H a) (YAt xs) → R J H) :
    ((∃ xs, SqL K H a xs) ∧ R (Itl K a) H) ∨ ((∃ xs, SqT K H a xs) ∧ R (Itt K a) H) := by
  rcases h with h | h
  · exact .inl ⟨⟨_, SqL.of h⟩, q _ ((walk_list (K := K) (a := a) (xs := xs)).mono (fun H' e => SqL.of (e.trans h)) fun _ _ _ _ _ _ y => y)⟩
  · exact .inr ⟨⟨_, SqT.of h⟩, q _ ((walk_tup (K := K) (a := a) (xs := xs)).mono (fun H' e => SqT.of (e.trans h)) fun _ _ _ _ _ _ y => y)⟩
theorem len_of {K : PySem.W.Frag} {H : Hp} {a : Addr} {xs : List V} (h : H a = some (.lst xs) ∨ H a = some (.tup xs)) : LenV K (.ref a) H xs.length := by
  rcases h with h | h
  · exact .inl ⟨_, SqL.of h, rfl⟩
  · exact .inr ⟨_, SqT.of h, rfl⟩
theorem ex_or {H H' : Hp} {a : Addr} {xs : List V} (e : Evl.Ex H H') (h : H a = some (.lst xs) ∨ H a = some (.tup xs)) : H' a = H a := by
  rcases h with h | h <;> rw [h, e _ _ h]
section
variable {P : Program} {w : World} {K : PySem.W.Frag} {mg : Str → Option Value} {base : Heap} {f : Addr} {fd : FuncData}
abbrev nInit : List Str := ["self", "name", "params", "result", "size", "code", "kind"]
theorem scInit : FnScope nInit ["self", "name", "params", "result", "size", "code"] (defScope sInit) := ⟨rfl, rfl, rfl, by decide +kernel, rfl, by decide +kernel, by decide +kernel⟩
/-- tuple(x) of a list or a tuple -/
def rTupD : List V → Hp → VK → Prop := fun xs H Q => ∃ (x : V) (d : PyData) (m : Int), xs = [x] ∧ Dq H x d ∧ seqD m d = true ∧ ∀ (H' : Hp) (t : V), Evl.Ex H H' → Dq H' t (.tuple (itemsOf d)) → Q t H'
theorem call_tupD {X : Cx} : CallR X (.type "tuple") rTupD := by
  intro pins s σ H xs us Q I r h
  obtain ⟨x, d, m, rfl, hd, k, q⟩ := h
  refine call_tuple_of pins s σ H _ us Q I r ?_
  cases d with
  | list ds =>
    obtain ⟨p, xs, rfl, hp, hall⟩ := hd.lstI
    exact ⟨p, xs, rfl, .inl ⟨SqL.of hp, fun l hl => q _ _ (Evl.Ex.new hl) (.tup upd_same (hall.ext (Evl.Ex.new hl)))⟩⟩
  | tuple ds =>
    obtain ⟨p, xs, rfl, hp, hall⟩ := hd.tupI
    exact ⟨p, xs, rfl, .inr ⟨SqT.of hp, q _ _ (Evl.Ex.refl _) (.tup hp hall)⟩⟩
  | _ => cases k
/-- code(x), x no list and no tuple but a dict with tuple keys -/
def spCodeT : Sp := fun vs H Q _ => ∃ (a : Addr) (kvs : List (List Key × V)) (m : Int), vs = [.ref a, .int m] ∧ H a = some (.dT kvs) ∧ ∀ H', Evl.Ex H H' → Q (.bl false) H'
def spSeqT : Sp := fun vs H Q _ => ∃ (a : Addr) (kvs : List (List Key × V)) (m : Int), vs = [.ref a, .int m] ∧ H a = some (.dT kvs) ∧ ∀ H', Evl.Ex H H' → Q (.bl false) H'
theorem ok_seqT (F : FnP K "is_sequence" ssequence f fd) (D : Defs w K mg) : FnOk P w K mg base CX0 1 f fd ["obj", "most"] spSeqT := by
  have T := D.t
  refine F.ok scseq (fun vs H Q E h => ?_) (fun cdv A outer s H vs Q E hr h => ?_)
  · obtain ⟨a, kvs, m, rfl, _⟩ := h
    rfl
  · obtain ⟨a, kvs, m, rfl, ha, hQ⟩ := h
    refine ⟨_, PSs.nox (pss_one (ps_ret (pe_and (pe_callB call_isiT rfl T.isi boot_isi (pa_cons (pv 0) (pa_cons (pe_tup (pa_cons (pe_bltn rfl T.lst boot_list (v := .ty "list") rfl) (pa_cons (pe_bltn rfl T.tup boot_tuple (v := .ty "tuple") rfl) pa_nil))) pa_nil))) (pe_one (pe_cmpR op_le (pe_callB call_len rfl T.len boot_len (pa_cons (pv 0) pa_nil)) (pv 1) (nomark _)))))), ?_⟩
    refine ⟨_, rfl, le_line (by simp), fun t1 h1 => ?_⟩
    have e1 := Evl.Ex.new (o := .tup [.ty "list", .ty "tuple"]) h1
    refine ⟨.ref a, t1, _, _, _, _, rfl, upd_same, .cons (.ty _) (.cons (.ty _) .nil), .base (.dT (e1 _ _ ha)), kit_list2 (.dict []), _, rfl, ?_⟩
    exact iteF (hQ _ e1)
theorem ok_codeT (F : FnP K "is_code" scode f fd) (D : Defs w K mg) : FnOk P w K mg base CX0 5 f fd ["value", "size"] spCodeT := by
  have T := D.t
  obtain ⟨tC, gC⟩ := D.code40
  obtain ⟨fI, fdI, gI, FI⟩ := D.is_instruction
  have GI : FnOk P w K mg base CX0 4 fI fdI ["value"] (spD insD) := ok_ins FI D
  have bI : Binds K fdI ["value"] [] := FI.bindsN fun _ _ _ _ _ _ us hl => match us, hl with | [_], _ => rfl
  obtain ⟨fS, fdS, gS, FS⟩ := D.is_sequence
  have GS : FnOk P w K mg base CX0 1 fS fdS ["obj", "most"] spSeqT := ok_seqT FS D
  have bS : Binds K fdS ["obj", "most"] [] := FS.bindsN fun _ _ _ _ _ _ us hl => match us, hl with | [_, _], _ => rfl
  obtain ⟨fR, fdR, gR, FR⟩ := D.drawers_in
  have GR : FnOk P w K mg base CX0 1 fR fdR ["instruction"] (spInts drawD) := ok_drawers FR D
  have bR : Binds K fdR ["instruction"] [] := FR.bindsN fun _ _ _ _ _ _ us hl => match us, hl with | [_], _ => rfl
  obtain ⟨fT, fdT, gT, FT⟩ := D.targets_in
  have GT : FnOk P w K mg base CX0 1 fT fdT ["instruction"] (spInts tgtD) := ok_targets FT D
  have bT : Binds K fdT ["instruction"] [] := FT.bindsN fun _ _ _ _ _ _ us hl => match us, hl with | [_], _ => rfl
  refine F.ok sccode (fun vs H Q E h => ?_) (fun cdv A outer s H vs Q E hr h => ?_)
  · obtain ⟨a, kvs, m, rfl, _⟩ := h
    rfl
  · obtain ⟨a, kvs, m, rfl, ha, hQ⟩ := h
    refine ⟨_, PSs.nox (pss_cons (ps_if (PW.pt (pw_or (pt_not (pt_val (pe_call GS (hr.mono (by decide)) rfl gS FS.kp bS .nil pass0 (pa_cons (pv 0) (pa_cons (pe_glob rfl gC (v := .int 40) ⟨tC, rfl⟩) pa_nil))))) (pw_or (pt_cmpR op_eq (pe_callB call_len rfl T.len boot_len (pa_cons (pv 0) pa_nil)) pe_int (nomark _)) (pw_or1 (pt_not (pt_val (pe_callB (cr_all rfl) rfl T.all boot_all (pa_cons (pe_lc (own := [("item", 2)]) (g := gName 2) (tt := tYes) rfl sccode.nd (pi_seqq (pv 0)) (blkOk_by (N := ncode) (sc := defScope scode) (by decide +kernel)) (fun _ _ _ _ _ => (pg_name (i := 2) sccode.nd rfl (Or.inl rfl))) (fun _ _ _ _ _ => pts_nil) (fun _ _ _ _ _ => (pe_call GI (hr.mono (by decide)) rfl gI FI.kp bI .nil pass0 (pa_cons (pv 2) pa_nil)))) pa_nil))))))))
        (pss_one (ps_ret pe_bl))
        pss_nil)
      (pss_cons (ps_for PassesOwn.never rfl (pi_seqq (pv 0)) (pg_name (i := 2) sccode.nd rfl (Or.inl rfl))
        (pss_cons (ps_if (pt_val (pe_callB (cr_any rfl) rfl T.any boot_any (pa_cons (pe_lc (own := [("drawer", 3)]) (g := gName 3) (tt := tYes) rfl sccode.nd (pi_list (pe_call GR (hr.mono (by decide)) rfl gR FR.kp bR .nil pass0 (pa_cons (pv 2) pa_nil))) (blkOk_by (N := ncode) (sc := defScope scode) (by decide +kernel)) (fun _ _ _ _ _ => (pg_name (i := 3) sccode.nd rfl (Or.inl rfl))) (fun _ _ _ _ _ => pts_nil) (fun _ _ _ _ _ => (pe_cmpR op_ge (pv 3) (pv 1) (nomark _)))) pa_nil)))
          (pss_one (ps_ret pe_bl))
          pss_nil)
        (pss_one (ps_if (pt_val (pe_callB (cr_any rfl) rfl T.any boot_any (pa_cons (pe_lc (own := [("target", 4)]) (g := gName 4) (tt := tYes) rfl sccode.nd (pi_list (pe_call GT (hr.mono (by decide)) rfl gT FT.kp bT .nil pass0 (pa_cons (pv 2) pa_nil))) (blkOk_by (N := ncode) (sc := defScope scode) (by decide +kernel)) (fun _ _ _ _ _ => (pg_name (i := 4) sccode.nd rfl (Or.inl rfl))) (fun _ _ _ _ _ => pts_nil) (fun _ _ _ _ _ => (pe_cmpR op_ge (pv 4) (pe_callB (r := rLen K) call_len rfl T.len boot_len (pa_cons (pv 0) pa_nil)) (nomark _)))) pa_nil)))
          (pss_one (ps_ret pe_bl))
          pss_nil))))
      (pss_one (ps_ret pe_bl)))), ?_⟩
    refine ⟨_, rfl, a, kvs, 40, rfl, ha, fun H0 e0 => ⟨_, rfl, ?_⟩⟩
    exact iteT (hQ _ e0)
/-- parts as they come -/
structure PartsW (H : Hp) (n p r z c : V) (dn dp dr dz dc : PyData) : Prop where
  hn : Dq H n dn
  hp : Dq H p dp
  hr : Dq H r dr
  hz : Dq H z dz
  hc : (Dq H c dc ∧ okD dc = true) ∨ ∃ a kvs es, c = .ref a ∧ H a = some (.dT kvs) ∧ dc = .dict es
  on : okD dn = true
  op : okD dp = true
  or : okD dr = true
  oz : okD dz = true
theorem PartsW.ext {H H' : Hp} {n p r z c : V} {dn dp dr dz dc : PyData} (h : PartsW H n p r z c dn dp dr dz dc) (e : Evl.Ex H H') : PartsW H' n p r z c dn dp dr dz dc :=
  { h with hn := h.hn.ext e, hp := h.hp.ext e, hr := h.hr.ext e, hz := h.hz.ext e, hc := h.hc.imp (fun q => ⟨q.1.ext e, q.2⟩) fun ⟨a, kvs, es, h1, h2, h3⟩ => ⟨a, kvs, es, h1, e _ _ h2, h3⟩ }
def kindsD (dp : PyData) : Bool := seqD 4 dp && (itemsOf dp).all typeD
def codeZ (dz dc : PyData) : Bool := match dz with
  | .int sz => codeD sz dc
  | _ => false
/-- the first part that is wrong -/
def badV (n p r z c : V) (dn dp dr dz dc : PyData) : Option V :=
  if nameD dn = true then if kindsD dp = true then if typeD dr = true then if inR (1 + (itemsOf dp).length) 10 dz = true then if codeZ dz dc = true then none else some c else some z else some r else some p else some n
def spInitX (C CI : Addr) : Sp := fun vs H Q E => ∃ (a dx : Addr) (n p r z c : V) (dn dp dr dz dc : PyData), vs = [.ref a, n, p, r, z, c] ∧ H a = some (.ins C dx []) ∧ PartsW H n p r z c dn dp dr dz dc ∧
  (∀ x, badV n p r z c dn dp dr dz dc = some x → ∀ (d : Addr) (H' : Hp), Evl.Ex H H' → H' d = some (.xd [("given", x)]) → E (.ref CI) (some d) H') ∧
  (badV n p r z c dn dp dr dz dc = none → ∀ (H' : Hp) (p' c' : V), (∀ b o, b ≠ a → H b = some o → H' b = some o) → H' a = some (.ins C dx (mfields n p' r z c')) → Dq H' p' (.tuple (itemsOf dp)) → Dq H' c' (.tuple (itemsOf dc)) → Q .non H')
theorem ok_initX (F : FunD K "__init__" "Method.__init__" (defArgs sInit) (defBody sInit) (defScope sInit) [] [] f fd) (D : Defs w K mg) (M : MethF K mg) (XF : ExcF P w K mg base) : FnOk P w K mg base (L2.CX P w) 6 f fd ["self", "name", "params", "result", "size", "code"] (spInitX (He.ga K "Method") (He.ga K "InvalidMethod")) := by
  have T := D.t
  obtain ⟨tP, gP⟩ := D.params4
  obtain ⟨fN, fdN, gN, FN⟩ := D.is_name
  have GN : FnOk P w K mg base CX0 1 fN fdN ["value"] (spD nameD) := okD_name D FN
  have bN : Binds K fdN ["value"] [] := FN.bindsN fun _ _ _ _ _ _ us hl => match us, hl with | [_], _ => rfl
  obtain ⟨fT, fdT, gT, FT⟩ := D.is_type
  have GT : FnOk P w K mg base CX0 2 fT fdT ["value"] (spD typeD) := okD_type D FT
  have bT : Binds K fdT ["value"] [] := FT.bindsN fun _ _ _ _ _ _ us hl => match us, hl with | [_], _ => rfl
  obtain ⟨fS, fdS, gS, FS⟩ := D.is_sequence
  have GS : FnOk P w K mg base CX0 1 fS fdS ["obj", "most"] spSeq := ok_seq FS D
  have bS : Binds K fdS ["obj", "most"] [] := FS.bindsN fun _ _ _ _ _ _ us hl => match us, hl with | [_, _], _ => rfl
  obtain ⟨fZ, fdZ, gZ, FZ⟩ := D.is_size
  have GZ : FnOk P w K mg base CX0 2 fZ fdZ ["value", "params"] spSize := ok_size FZ D
  have bZ : Binds K fdZ ["value", "params"] [] := FZ.bindsN fun _ _ _ _ _ _ us hl => match us, hl with | [_, _], _ => rfl
  obtain ⟨fC, fdC, gC, FC⟩ := D.is_code
  have GC := FnOk.both (ok_code (P := P) (w := w) (base := base) FC D) (ok_codeT (P := P) (w := w) (base := base) FC D)
  obtain ⟨fdE, GE, bE⟩ := XF.fn
  have bC : Binds K fdC ["value", "size"] [] := FC.bindsN fun _ _ _ _ _ _ us hl => match us, hl with | [_, _], _ => rfl
  refine F.ok scInit (fun vs H Q E h => ?_) (fun cdv A outer s H vs Q E hr h => ?_)
  · obtain ⟨a, dx, n, p, r, z, c, dn, dp, dr, dz, dc, rfl, _⟩ := h
    rfl
  · obtain ⟨a, dx, n, p, r, z, c, dn, dp, dr, dz, dc, rfl, ha, ok, hX, hQ⟩ := h
    refine ⟨_, (pss_cons (ps_if (pt_not (pt_val (pe_call GN (hr.mono (by decide)) rfl gN FN.kp bN .nil pass0 (pa_cons (pv 1) pa_nil))))
        (pss_one (ps_raise rfl (takes_of rfl rfl rfl rfl) (pmk_xk XF.g.t XF.g.at_ XF.g.ty GE (hr.mono (by decide)) bE rfl XF.hm (by decide) (pa_cons (pv 1) pa_nil))))
        pss_nil)
      (pss_cons (ps_if (PW.pt (pw_or (pt_not (pt_val (pe_call GS (hr.mono (by decide)) rfl gS FS.kp bS .nil pass0 (pa_cons (pv 2) (pa_cons (pe_glob rfl gP (v := .int 4) ⟨tP, rfl⟩) pa_nil))))) (pw_or1 (pt_not (pt_val (pe_callB (cr_all rfl) rfl T.all boot_all (pa_cons (pe_lc (own := [("kind", 6)]) (g := gName 6) (tt := tYes) rfl scInit.nd (pi_seqq (pv 2)) (blkOk_by (N := nInit) (sc := defScope sInit) (by decide +kernel)) (fun _ _ _ _ _ => (pg_name (i := 6) scInit.nd rfl (Or.inl rfl))) (fun _ _ _ _ _ => pts_nil) (fun _ _ _ _ _ => (pe_call GT (hr.mono (by decide)) rfl gT FT.kp bT .nil pass0 (pa_cons (pv 6) pa_nil)))) pa_nil)))))))
        (pss_one (ps_raise rfl (takes_of rfl rfl rfl rfl) (pmk_xk XF.g.t XF.g.at_ XF.g.ty GE (hr.mono (by decide)) bE rfl XF.hm (by decide) (pa_cons (pv 2) pa_nil))))
        pss_nil)
      (pss_cons (ps_if (pt_not (pt_val (pe_call GT (hr.mono (by decide)) rfl gT FT.kp bT .nil pass0 (pa_cons (pv 3) pa_nil))))
        (pss_one (ps_raise rfl (takes_of rfl rfl rfl rfl) (pmk_xk XF.g.t XF.g.at_ XF.g.ty GE (hr.mono (by decide)) bE rfl XF.hm (by decide) (pa_cons (pv 3) pa_nil))))
        pss_nil)
      (pss_cons (ps_if (pt_not (pt_val (pe_call GZ (hr.mono (by decide)) rfl gZ FZ.kp bZ .nil pass0 (pa_cons (pv 4) (pa_cons (pe_callB call_len rfl T.len boot_len (pa_cons (pv 2) pa_nil)) pa_nil)))))
        (pss_one (ps_raise rfl (takes_of rfl rfl rfl rfl) (pmk_xk XF.g.t XF.g.at_ XF.g.ty GE (hr.mono (by decide)) bE rfl XF.hm (by decide) (pa_cons (pv 4) pa_nil))))
        pss_nil)
      (pss_cons (ps_if (pt_not (pt_val (pe_call GC hr rfl gC FC.kp bC .nil pass0 (pa_cons (pv 5) (pa_cons (pv 4) pa_nil)))))
        (pss_one (ps_raise rfl (takes_of rfl rfl rfl rfl) (pmk_xk XF.g.t XF.g.at_ XF.g.ty GE (hr.mono (by decide)) bE rfl XF.hm (by decide) (pa_cons (pv 5) pa_nil))))
        pss_nil)
      (pss_cons (ps_asg (pe_tup (pa_cons (pv 1) (pa_cons (pe_callTy call_tupD rfl T.tup boot_tuple (pa_cons (pv 2) pa_nil)) (pa_cons (pv 3) pa_nil)))) (pg_tup rfl (pgs_cons (pg_fld (pv 0)) (pgs_cons (pg_fld (pv 0)) (pgs_cons (pg_fld (pv 0)) pgs_nil)))) (hw := no_swap3 rfl))
      (pss_one (ps_asg (pe_tup (pa_cons (pv 4) (pa_cons (pe_callTy call_tupD rfl T.tup boot_tuple (pa_cons (pv 5) pa_nil)) pa_nil))) (pg_tup rfl (pgs_cons (pg_fld (pv 0)) (pgs_cons (pg_fld (pv 0)) pgs_nil))) (hw := no_swap rfl))))))))), ?_⟩
    refine ⟨_, rfl, n, dn, rfl, ok.hn, ok.on, fun H1 e1 => ⟨_, rfl, ?_⟩⟩
    cases hkn : nameD dn with
    | false => exact iteT ⟨_, rfl, rfl, fun dE HE eE hE => hX n (by simp [badV, kindsD, hkn]) dE HE (e1.trans eE) hE⟩
    | true =>
    refine iteF ?_
    have ok1 := ok.ext e1
    refine ⟨_, rfl, p, dp, 4, rfl, ok1.hp, fun H2 e2 => ⟨_, rfl, ?_⟩⟩
    cases hkp : seqD 4 dp with
    | false => exact iteT ⟨_, rfl, rfl, fun dE HE eE hE => hX p (by simp [badV, kindsD, hkn, hkp]) dE HE ((e1.trans e2).trans eE) hE⟩
    | true =>
    refine iteF ?_
    have ok2 := ok1.ext e2
    obtain ⟨pa, pxs, rfl, hpa, hpall, hpl⟩ := seq_sq (K := K) ok2.hp hkp
    have hplen := DqAll.length hpall
    have hp0 := hpa
    rcases hp0 with hp0 | hp0
    case' inl =>
      refine ⟨_, rfl, pa, rfl, .inl ⟨⟨_, SqL.of hp0⟩, fun L hL => ?_⟩⟩
      have wJ := (walk_list (K := K) (a := pa) (xs := pxs)).mono (G' := fun H' => H' pa = H2 pa) (fun H' e => SqL.of (e.trans hp0)) fun _ _ _ _ _ _ y => y
    case' inr =>
      refine ⟨_, rfl, pa, rfl, .inr ⟨⟨_, SqT.of hp0⟩, fun L hL => ?_⟩⟩
      have wJ := (walk_tup (K := K) (a := pa) (xs := pxs)).mono (G' := fun H' => H' pa = H2 pa) (fun H' e => SqT.of (e.trans hp0)) fun _ _ _ _ _ _ y => y
    all_goals
      refine lc_map wJ hL (fun H' e => ex_or e hpa) (fun j => .bl (typeD ((itemsOf dp).getD j .none))) (by omega) (fun j H3 x H4 _ _ y => by rw [y.1]; exact Evl.Ex.refl _) ?_ ?_
      · rintro j x H3 H4 hj e3 _ ⟨rfl, hx⟩ Qt hQt
        obtain ⟨dj, hdj, hxj⟩ := hpall.get hx
        have egd : (itemsOf dp).getD j .none = dj := by rw [List.getD_eq_getElem?_getD, hdj]; rfl
        rw [egd] at hQt
        exact ⟨rfl, _, rfl, x, dj, rfl, hxj.ext e3, okAll_mem (okAll_items ok.op) dj (List.mem_of_getElem? hdj), hQt⟩
      intro H3 e3 hL3
      refine ⟨L, (List.range pxs.length).map fun j => typeD ((itemsOf dp).getD j .none), rfl, SqL.of (by rw [hL3, List.map_map]; rfl), ?_⟩
      rw [hplen, map_range_get (itemsOf dp) typeD _ (fun i e he => by rw [List.getD_eq_getElem?_getD, he]; rfl), List.all_map, show (id ∘ typeD) = typeD from rfl]
      have e13 := (e1.trans e2).trans e3
      cases hkt : (itemsOf dp).all typeD with
      | false => exact ⟨_, rfl, iteT ⟨_, rfl, rfl, fun dE HE eE hE => hX (.ref pa) (by simp [badV, kindsD, hkn, hkp, hkt]) dE HE (e13.trans eE) hE⟩⟩
      | true =>
      refine ⟨_, rfl, iteF ?_⟩
      have ok3 := ok2.ext e3
      refine ⟨_, rfl, r, dr, rfl, ok3.hr, ok.or, fun H4 e4 => ⟨_, rfl, ?_⟩⟩
      have e14 := e13.trans e4
      cases hkr : typeD dr with
      | false => exact iteT ⟨_, rfl, rfl, fun dE HE eE hE => hX r (by simp [badV, kindsD, hkn, hkp, hkt, hkr]) dE HE (e14.trans eE) hE⟩
      | true =>
      refine iteF ?_
      have ok4 := ok3.ext e4
      have hpa4 : H4 pa = some (.lst pxs) ∨ H4 pa = some (.tup pxs) := by rw [ex_or (e3.trans e4) hpa]; exact hpa
      refine ⟨_, rfl, _, rfl, _, _, rfl, len_of hpa4, z, dz, _, rfl, ok4.hz, ok.oz, fun H5 e5 => ⟨_, rfl, ?_⟩⟩
      rw [hplen]
      have e15 := e14.trans e5
      cases hkz : inR (1 + (itemsOf dp).length) 10 dz with
      | false => exact iteT ⟨_, rfl, rfl, fun dE HE eE hE => hX z (by simp [badV, kindsD, hkn, hkp, hkt, hkr, hkz]) dE HE (e15.trans eE) hE⟩
      | true =>
      refine iteF ?_
      have ok5 := ok4.ext e5
      obtain ⟨sz, rfl⟩ : ∃ sz, dz = .int sz := by
        cases dz with
        | int sz => exact ⟨_, rfl⟩
        | _ => cases hkz
      obtain rfl : z = .int sz := ok.hz.intI
      rcases ok5.hc with ⟨hcq, hco⟩ | ⟨ca, kvs, es, rfl, hct, rfl⟩
      case' inr =>
        exact ⟨_, rfl, _, rfl, .inr ⟨ca, kvs, sz, rfl, hct, fun H6 e6 => ⟨_, rfl, iteT ⟨_, rfl, rfl, fun dE HE eE hE => hX (.ref ca) (by simp [badV, kindsD, hkn, hkp, hkt, hkr, hkz, show codeZ (.int sz) (.dict es) = false from rfl]) dE HE ((e15.trans e6).trans eE) hE⟩⟩⟩⟩
      refine ⟨_, rfl, _, rfl, .inl ⟨c, dc, sz, rfl, hcq, hco, fun H6 e6 => ⟨_, rfl, ?_⟩⟩⟩
      have e06 := e15.trans e6
      cases hkcc : codeD sz dc with
      | false => exact iteT ⟨_, rfl, rfl, fun dE HE eE hE => hX c (by simp [badV, kindsD, hkn, hkp, hkt, hkr, hkz, show codeZ (.int sz) dc = false from hkcc]) dE HE (e06.trans eE) hE⟩
      | true =>
      refine iteF ?_
      have okw := ok.ext e06
      have ok6 : PartsOk H6 n (.ref pa) r (.int sz) c dn dp dr sz dc := ⟨okw.hn, okw.hp, okw.hr, rfl, hcq.ext e6, okw.on, okw.op, okw.or, hco, hkn, hkp, hkt, hkr, hkz, hkcc⟩
      have ha6 := e06 _ _ ha
      have hQ0 := hQ (by simp [badV, kindsD, hkn, hkp, hkt, hkr, hkz, show codeZ (.int sz) dc = true from hkcc])
      clear e1 e2 e3 e4 e5 e6 ok1 ok2 ok3 ok4 ok5 hpall hpa4 hL hL3 wJ hp0 hpa e13 e14 e15 okw
      have hkc : seqD 40 dc = true := by
        have := hkcc
        unfold codeD at this
        simp only [Bool.and_eq_true] at this
        exact this.1.1.1
      have hM := M
      refine ⟨_, rfl, _, rfl, _, dp, _, rfl, ok6.hp, hkp, fun H7 p' e7 hp7 => ⟨_, rfl, le_line (by simp), fun t1 ht1 => ?_⟩⟩
      have ok7 := ok6.ext e7
      have e8 := Evl.Ex.new (o := .tup [n, p', r]) ht1
      have ha8 := e8 _ _ (e7 _ _ ha6)
      have ok8 := ok7.ext e8
      have hp8 := hp7.ext e8
      have e08 := (e06.trans e7).trans e8
      refine ⟨t1, _, rfl, SqT.of upd_same, rfl, _, _, rfl, ?_⟩
      generalize (upd H7 t1 (.tup [n, p', r])) = H8 at ha8 ok8 hp8 e08
      refine ⟨_, rfl, a, _, dx, [], rfl, ha8, M.cl, M.n1, by decide, _, _, rfl, ?_⟩
      refine ⟨_, rfl, a, _, dx, [("own_name", n)], rfl, upd_same, M.cl, M.n2, by simp, _, _, rfl, ?_⟩
      refine ⟨_, rfl, a, _, dx, [("own_name", n), ("own_params", p')], rfl, upd_same, M.cl, M.n3, by simp, rfl, ?_⟩
      have k9 : ∀ b o, b ≠ a → H8 b = some o → (upd (upd (upd H8 a (.ins (He.ga K "Method") dx (putF "own_name" n []))) a (.ins (He.ga K "Method") dx (putF "own_params" p' [("own_name", n)]))) a (.ins (He.ga K "Method") dx (putF "own_result" r [("own_name", n), ("own_params", p')]))) b = some o := fun b o hb e => by
        rw [upd_ne hb, upd_ne hb, upd_ne hb]; exact e
      have ha9 := upd_same (H := upd (upd H8 a (.ins (He.ga K "Method") dx (putF "own_name" n []))) a (.ins (He.ga K "Method") dx (putF "own_params" p' [("own_name", n)]))) (a := a) (o := .ins (He.ga K "Method") dx (putF "own_result" r [("own_name", n), ("own_params", p')]))
      generalize (upd (upd (upd H8 a (.ins (He.ga K "Method") dx (putF "own_name" n []))) a (.ins (He.ga K "Method") dx (putF "own_params" p' [("own_name", n)]))) a (.ins (He.ga K "Method") dx (putF "own_result" r [("own_name", n), ("own_params", p')]))) = H9 at k9 ha9
      have hc9 : Dq H9 c dc := Dq.fr ha8 k9 ok8.hc
      have hp9 : Dq H9 p' (.tuple (itemsOf dp)) := Dq.fr ha8 k9 hp8
      refine ⟨_, rfl, _, rfl, _, dc, _, rfl, hc9, hkc, fun H10 c' e10 hc10 => ⟨le_line (by simp), fun t2 ht2 => ?_⟩⟩
      have e11 := Evl.Ex.new (o := .tup [.int sz, c']) ht2
      have ha11 := e11 _ _ (e10 _ _ ha9)
      have hp11 := (hp9.ext e10).ext e11
      have hc11 := hc10.ext e11
      have e911 := e10.trans e11
      refine ⟨t2, _, rfl, SqT.of upd_same, rfl, _, _, rfl, ?_⟩
      generalize (upd H10 t2 (.tup [.int sz, c'])) = H11 at ha11 hp11 hc11 e911
      refine ⟨_, rfl, a, _, dx, [("own_name", n), ("own_params", p'), ("own_result", r)], rfl, ha11, M.cl, M.n4, by simp, _, _, rfl, ?_⟩
      refine ⟨_, rfl, a, _, dx, [("own_name", n), ("own_params", p'), ("own_result", r), ("own_size", .int sz)], rfl, upd_same, M.cl, M.n5, by simp, rfl, ?_⟩
      have k12 : ∀ b o, b ≠ a → H11 b = some o → (upd (upd H11 a (.ins (He.ga K "Method") dx (putF "own_size" (.int sz) [("own_name", n), ("own_params", p'), ("own_result", r)]))) a (.ins (He.ga K "Method") dx (putF "own_code" c' [("own_name", n), ("own_params", p'), ("own_result", r), ("own_size", .int sz)]))) b = some o := fun b o hb e => by
        rw [upd_ne hb, upd_ne hb]; exact e
      refine hQ0 _ p' c' (fun b o hb e => k12 b o hb (e911 _ _ (k9 b o hb (e08 _ _ e)))) upd_same (Dq.fr ha11 k12 hp11) (Dq.fr ha11 k12 hc11)
end
end K50
set_option Elab.async false
set_option linter.all false
set_option maxRecDepth 100000
set_option maxHeartbeats 0
namespace K50
open PySem PySem.Spec PyProof.Rows L2 EX2
theorem PartsOk.w {H : Hp} {n p r z c : V} {dn dp dr dc : PyData} {sz : Int} (h : PartsOk H n p r z c dn dp dr sz dc) : PartsW H n p r z c dn dp dr (.int sz) dc ∧ badV n p r z c dn dp dr (.int sz) dc = none :=
  ⟨⟨h.hn, h.hp, h.hr, by rw [h.hz]; exact .int sz, .inl ⟨h.hc, h.oc⟩, h.on, h.op, h.or, rfl⟩, by simp [badV, kindsD, h.kn, h.kp, h.kt, h.kr, h.kz, show codeZ (.int sz) dc = true from h.kc]⟩
theorem spInit_X {C CI : Addr} : ∀ vs H Q E, spInit C vs H Q E → spInitX C CI vs H Q E := by
  rintro vs H Q E ⟨a, dx, n, p, r, z, c, dn, dp, dr, dc, sz, rfl, ha, ok, hQ⟩
  exact ⟨a, dx, n, p, r, z, c, dn, dp, dr, .int sz, dc, rfl, ha, ok.w.1, (fun x h => by rw [ok.w.2] at h; cases h), fun _ => hQ⟩
theorem DqAll.setA {H : Hp} {xs : List V} {ds : List PyData} (h : DqAll H xs ds) {x : V} {d : PyData} (hx : Dq H x d) : ∀ (i : Nat), DqAll H (xs.set i x) (ds.set i d) := by
  induction xs generalizing ds with
  | nil => cases h; intro i; exact .nil
  | cons y ys ih =>
    cases h with
    | cons h t =>
      intro i
      cases i with
      | zero => exact .cons hx t
      | succ i => exact .cons h (ih t i)
end K50
set_option Elab.async false
set_option linter.all false
set_option maxRecDepth 100000
set_option maxHeartbeats 0
/-! plain: instructions that are drawn, their words -/
namespace K50
open PySem PySem.Spec PyProof.Rows L2 EX2
theorem ifT {b : Bool} {A B : Prop} (e : b = true) (h : A) : if b = true then A else B := by rw [if_pos e]; exact h
theorem ifF {b : Bool} {A B : Prop} (e : b = false) (h : B) : if b = true then A else B := by rw [if_neg]; exact h; rw [e]; exact Bool.false_ne_true
def nmS : List Str := ["a", "b", "c", "d", "top", "zzzzzzzz", "z"]
def fS : List Str := ["f", "g", "m", "n"]
def kS : List Str := ["a", "b", "c", "d", "top", "a[]", "c[]"]
theorem nmS_ok : ∀ z ∈ nmS, isNm z = true ∧ z.length ≤ 8 ∧ PyData.strOk z = true := by decide +kernel
theorem fS_ok : ∀ z ∈ fS, isNm z = true ∧ z.length ≤ 8 ∧ PyData.strOk z = true := by decide +kernel
theorem kS_ok : ∀ z ∈ kS, isNm (nmOf z) = true ∧ z.length ≤ 8 ∧ PyData.strOk z = true := by decide +kernel
def iD (i : Nat) : PyData := .int i
/-- an item at a sign -/
inductive It (n : Nat) : Nat → PyData → Prop
  | r (i : Nat) (h : i < 5) : It n 114 (iD i)
  | n (i : Nat) (h : i < 5) : It n 110 (iD i)
  | j (i : Nat) (h : i < n) : It n 106 (iD i)
  | c (z : Str) (h : z ∈ nmS) : It n 99 (.str z)
  | f (z : Str) (h : z ∈ fS) : It n 102 (.str z)
  | t (z : Str) (h : z ∈ kS) : It n 116 (.str z)
  | y (zs : List Str) (l : zs.length ≤ 2) (h : ∀ z ∈ zs, z ∈ kS) : It n 121 (.tuple (zs.map .str))
  | x (is : List Nat) (l : is.length ≤ 2) (h : ∀ i ∈ is, i < 5) : It n 120 (.tuple (is.map iD))
inductive Its (n : Nat) : List Nat → List PyData → Prop
  | nil : Its n [] []
  | cons {c : Nat} {d : PyData} {cs : List Nat} {ds : List PyData} (h : It n c d) (t : Its n cs ds) : Its n (c :: cs) (d :: ds)
theorem Its.len {n : Nat} {cs : List Nat} {ds : List PyData} (h : Its n cs ds) : ds.length = cs.length := by
  induction h with
  | nil => rfl
  | cons _ _ ih => rw [List.length_cons, List.length_cons, ih]
theorem Its.get {n : Nat} {cs : List Nat} {ds : List PyData} (h : Its n cs ds) : ∀ {i : Nat} {c : Nat}, cs[i]? = some c → ∃ d, ds[i]? = some d ∧ It n c d := by
  induction h with
  | nil => intro i c e; simp at e
  | cons h _ ih =>
    intro i c e
    cases i with
    | zero => simp only [List.getElem?_cons_zero, Option.some.injEq] at e ⊢; subst e; exact ⟨_, rfl, h⟩
    | succ i => simp only [List.getElem?_cons_succ] at e ⊢; exact ih e
theorem Its.all {n : Nat} {cs : List Nat} {ds : List PyData} (h : Its n cs ds) : ∀ d ∈ ds, ∃ c, It n c d := by
  induction h with
  | nil => intro d hd; cases hd
  | cons h _ ih =>
    intro d hd
    rcases List.mem_cons.mp hd with rfl | hd
    · exact ⟨_, h⟩
    · exact ih d hd
/-- an instruction -/
structure InP (n : Nat) (z : Str) (fm : Str) (ds : List PyData) : Prop where
  lk : forms.lookup z = some fm
  its : Its n fm.cps.toList ds
  eq : (!(z == "call" || z == "ask") || decide (lenD (ds.getD 4 .none) = lenD (ds.getD 6 .none))) = true
def InD (n : Nat) (d : PyData) : Prop := ∃ z fm ds, d = .tuple (.str z :: ds) ∧ InP n z fm ds
theorem it_fits {n c : Nat} {d : PyData} (hn : n ≤ 40) (h : It n c d) : fitsC c d = true := by
  cases h with
  | r i h => show inR 0 9 (.int i) = true; rw [inR_int]; simp; omega
  | n i h => show inR 0 9 (.int i) = true; rw [inR_int]; simp; omega
  | j i h => show inR 0 39 (.int i) = true; rw [inR_int]; simp; omega
  | c z h => exact (nmS_ok z h).1
  | f z h => exact (fS_ok z h).1
  | t z h => exact (kS_ok z h).1
  | y zs l h =>
    show (decide ((zs.map PyData.str).length ≤ 4) && (zs.map PyData.str).all (elC 121)) = true
    rw [decide_eq_true (by rw [List.length_map]; omega), Bool.true_and, List.all_map, List.all_eq_true]
    exact fun z hz => (kS_ok z (h z hz)).1
  | x is l h =>
    show (decide ((is.map iD).length ≤ 4) && (is.map iD).all (elC 120)) = true
    rw [decide_eq_true (by rw [List.length_map]; omega), Bool.true_and, List.all_map, List.all_eq_true]
    intro i hi
    have := h i hi
    show inR 0 9 (.int i) = true
    rw [inR_int]
    simp
    omega
theorem it_ok {n c : Nat} {d : PyData} (h : It n c d) : okD d = true ∧ noL d = true := by
  have st : ∀ z : Str, z.length ≤ 8 ∧ PyData.strOk z = true → okD (.str z) = true := fun z q => by
    simp only [okD, Bool.and_eq_true, decide_eq_true_eq]
    exact ⟨by omega, q.2⟩
  cases h with
  | r i h => exact ⟨rfl, rfl⟩
  | n i h => exact ⟨rfl, rfl⟩
  | j i h => exact ⟨rfl, rfl⟩
  | c z h => exact ⟨st z (nmS_ok z h).2, rfl⟩
  | f z h => exact ⟨st z (fS_ok z h).2, rfl⟩
  | t z h => exact ⟨st z (kS_ok z h).2, rfl⟩
  | y zs l h => exact ⟨okAll_of fun k hk => by obtain ⟨z, hz, rfl⟩ := List.mem_map.mp hk; exact st z (kS_ok z (h z hz)).2, noLs_of fun k hk => by obtain ⟨z, hz, rfl⟩ := List.mem_map.mp hk; rfl⟩
  | x is l h => exact ⟨okAll_of fun k hk => by obtain ⟨z, hz, rfl⟩ := List.mem_map.mp hk; rfl, noLs_of fun k hk => by obtain ⟨z, hz, rfl⟩ := List.mem_map.mp hk; rfl⟩
/-- words of the table -/
theorem forms_word : ∀ p ∈ K50.forms, (p.1.length ≤ 8 ∧ PyData.strOk p.1 = true ∧ isNm p.1 = true) ∧ (p.1 ≠ "end" ∧ 1 ≤ p.2.length ∧ p.2.length ≤ 7) := by decide +kernel
section
variable {n : Nat} {z fm : Str} {ds : List PyData}
theorem InP.len (h : InP n z fm ds) : ds.length = fm.length := by
  have := h.its.len
  rw [this]
  simp [Str.length]
theorem InP.mem (h : InP n z fm ds) : (z, fm) ∈ K50.forms := lookup_mem h.lk
theorem InP.at (h : InP n z fm ds) {i : Nat} (hi : i < fm.length) : It n (fm.cps.toList.getD i 0) (ds.getD i .none) := by
  have hl : fm.length = fm.cps.toList.length := by simp [Str.length]
  have e : fm.cps.toList[i]? = some (fm.cps.toList[i]'(by omega)) := List.getElem?_eq_getElem (by omega)
  obtain ⟨d, hd, q⟩ := h.its.get e
  rw [List.getD_eq_getElem?_getD, List.getD_eq_getElem?_getD, e, hd]
  exact q
theorem InP.ins (hn : n ≤ 40) (h : InP n z fm ds) : insD (.tuple (.str z :: ds)) = true := by
  show insT z ds = true
  unfold insT
  rw [h.lk]
  dsimp only
  rw [h.eq, Bool.and_true, Bool.and_eq_true, decide_eq_true_eq, List.all_eq_true]
  exact ⟨h.len, fun i hi => it_fits hn (h.at (List.mem_range.mp hi))⟩
theorem InP.ok (h : InP n z fm ds) : okD (.tuple (.str z :: ds)) = true ∧ noL (.tuple (.str z :: ds)) = true := by
  have hz : z.length ≤ 8 ∧ PyData.strOk z = true ∧ isNm z = true := (forms_word _ h.mem).1
  refine ⟨okAll_of fun d hd => ?_, noLs_of (ds := .str z :: ds) fun d hd => ?_⟩
  · rcases List.mem_cons.mp hd with rfl | hd
    · simp only [okD, Bool.and_eq_true, decide_eq_true_eq]
      exact ⟨by omega, hz.2.1⟩
    · obtain ⟨c, q⟩ := h.its.all d hd
      exact (it_ok q).1
  · rcases List.mem_cons.mp hd with rfl | hd
    · rfl
    · obtain ⟨c, q⟩ := h.its.all d hd
      exact (it_ok q).2
theorem InP.draw (h : InP n z fm ds) : ∀ e ∈ drawD (.tuple (.str z :: ds)), ltD 5 e = true := by
  intro e he
  have e1 : drawD (.tuple (.str z :: ds)) = drawT fm ds := by
    show (match K50.forms.lookup z with | some fm => drawT fm ds | none => []) = _
    rw [h.lk]
  rw [e1] at he
  unfold drawT at he
  obtain ⟨i, hi, he⟩ := List.mem_flatMap.mp he
  have q := h.at (List.mem_range.mp hi)
  split at he
  · rename_i hc
    rw [hc] at q
    rw [List.mem_singleton] at he
    generalize ds.getD i .none = d at q he
    subst he
    generalize hk : (114 : Nat) = k at q
    cases q <;> first | (cases hk; done) | (exact decide_eq_true (by omega))
  · split at he
    · rename_i hc
      rw [hc] at q
      generalize ds.getD i .none = d at q he
      generalize hk : (120 : Nat) = k at q
      cases q with
      | x is l h =>
        obtain ⟨j, hj, rfl⟩ := List.mem_map.mp (show e ∈ is.map iD from he)
        have := h j hj
        exact decide_eq_true (by omega)
      | _ => cases hk
    · cases he
theorem InP.tgt (h : InP n z fm ds) : ∀ e ∈ tgtD (.tuple (.str z :: ds)), ltD n e = true := by
  intro e he
  have e1 : tgtD (.tuple (.str z :: ds)) = tgtT fm ds := by
    show (match K50.forms.lookup z with | some fm => tgtT fm ds | none => []) = _
    rw [h.lk]
  rw [e1] at he
  unfold tgtT at he
  obtain ⟨i, hi, he⟩ := List.mem_flatMap.mp he
  have q := h.at (List.mem_range.mp hi)
  split at he
  · rename_i hc
    rw [hc] at q
    rw [List.mem_singleton] at he
    generalize ds.getD i .none = d at q he
    subst he
    generalize hk : (106 : Nat) = k at q
    cases q <;> first | (cases hk; done) | (exact decide_eq_true (by omega))
  · cases he
end
/-- the code of a method -/
structure CodP (cd : List PyData) : Prop where
  c0 : 0 < cd.length
  c1 : cd.length ≤ 20
  ci : ∀ d ∈ cd, InD cd.length d
theorem CodP.codeD {cd : List PyData} (h : CodP cd) {dc : PyData} (e : itemsOf dc = cd) (s : seqD 40 dc = true) {sz : Int} (hs : 5 ≤ sz) : codeD sz dc = true := by
  have c1 := h.c1
  have c0 := h.c0
  unfold K50.codeD
  rw [s, e, decide_eq_true (by omega), Bool.true_and, Bool.true_and, Bool.and_eq_true]
  refine ⟨List.all_eq_true.mpr fun d hd => ?_, List.all_eq_true.mpr fun d hd => ?_⟩
  · obtain ⟨z, fm, ds, rfl, q⟩ := h.ci d hd
    exact q.ins (by omega)
  · obtain ⟨z, fm, ds, rfl, q⟩ := h.ci d hd
    unfold codeOk
    rw [Bool.and_eq_true]
    refine ⟨List.all_eq_true.mpr fun e he => ?_, List.all_eq_true.mpr fun e he => q.tgt e he⟩
    have := q.draw e he
    cases e with
    | int i => exact decide_eq_true (by have := of_decide_eq_true this; omega)
    | _ => cases this
end K50
set_option Elab.async false
set_option linter.all false
set_option maxRecDepth 100000
set_option maxHeartbeats 0
/-! what is drawn: kinds, instructions (targets still None) -/
namespace K50
open PySem PySem.Spec PyProof.Rows L2 EX2
/-- the law's own functions -/
structure DD (w : World) (K : PySem.W.Frag) (mg : Str → Option Value) : Prop where
  d : Defs w K mg
  _law_kind : ∃ f fd, mg "_law_kind" = some (.ref f) ∧ FnP K "_law_kind" (top 49) f fd
  _law_jump : ∃ f fd, mg "_law_jump" = some (.ref f) ∧ FnP K "_law_jump" (top 50) f fd
  _law_arrays : ∃ f fd, mg "_law_arrays" = some (.ref f) ∧ FnP K "_law_arrays" (top 51) f fd
  _law_calls : ∃ f fd, mg "_law_calls" = some (.ref f) ∧ FnP K "_law_calls" (top 52) f fd
  _law_steps : ∃ f fd, mg "_law_steps" = some (.ref f) ∧ FnP K "_law_steps" (top 53) f fd
  _law_code : ∃ f fd, mg "_law_code" = some (.ref f) ∧ FnP K "_law_code" (top 54) f fd
theorem DD.t {w : World} {K : PySem.W.Frag} {mg : Str → Option Value} (D : DD w K mg) : Txt K mg := D.d.t
theorem DD._law_draw {w : World} {K : PySem.W.Frag} {mg : Str → Option Value} (D : DD w K mg) : ∃ f fd, mg "_law_draw" = some (.ref f) ∧ FnP K "_law_draw" sDraw f fd := D.d.draw
theorem DD._law_pick {w : World} {K : PySem.W.Frag} {mg : Str → Option Value} (D : DD w K mg) : ∃ f fd, mg "_law_pick" = some (.ref f) ∧ FnP K "_law_pick" spick f fd := D.d.pick
/-- an instruction, its target still None perhaps -/
inductive PreP : PyData → Prop
  | i (d : PyData) (h : InD 1 d) : PreP d
  | ifis (r : Nat) (z : Str) (hr : r < 5) (hz : z ∈ nmS) : PreP (.tuple [.str "ifis", iD r, .str z, .none])
  | ifnull (r : Nat) (hr : r < 5) : PreP (.tuple [.str "ifnull", iD r, .none])
  | jump : PreP (.tuple [.str "jump", .none])
  | choose : PreP (.tuple [.str "choose", .none])
theorem preP_noL {d : PyData} (h : PreP d) : noL d = true := by
  cases h with
  | i d h => obtain ⟨z, fm, ds, rfl, q⟩ := h; exact q.ok.2
  | _ => rfl
/-- a list of such -/
abbrev Pre (p : Addr) (H H' : Hp) (L : Addr) (xs : List V) (ds : List PyData) (k : Nat) : Prop := Lx p H H' ∧ H L = none ∧ H' L = some (.lst xs) ∧ DzAll p H' xs ds ∧ ds.length ≤ k ∧ ∀ d ∈ ds, PreP d
def spPre (vs0 : Addr → List V → Prop) (k : Nat) : Sp := fun vs H Q _ => ∃ (p : Addr), vs0 p vs ∧ Sc p H ∧ ∀ (L : Addr) (xs : List V) (ds : List PyData) (H' : Hp), Pre p H H' L xs ds k → Q (.ref L) H'
def spKind : Sp := fun vs H Q _ => ∃ (p : Addr) (z : Str), vs = [.ref p, .str z] ∧ Sc p H ∧ z ∈ kS ∧ ∀ y H', y ∈ kS → Lx p H H' → Q (.str y) H'
section
variable {P : Program} {w : World} {K : PySem.W.Frag} {mg : Str → Option Value} {base : Heap} {f : Addr} {fd : FuncData}
theorem ok_law_draw (F : FnP K "_law_draw" sDraw f fd) (D : DD w K mg) : FnOk P w K mg base CX0 1 f fd ["_law_source_here", "_law_amount"] spDr := okL_draw F D.d
theorem ok_law_pick (F : FnP K "_law_pick" spick f fd) (D : DD w K mg) : FnOk P w K mg base CX0 2 f fd ["_law_source_here", "_law_items"] spPick := ok_pick F D.d
theorem pickS {zs : List Str} {S : List Str} (h : ∀ z ∈ zs, z ∈ S) {x : V} (hx : x ∈ zs.map V.str) : ∃ z, x = .str z ∧ z ∈ S := by
  obtain ⟨z, hz, rfl⟩ := List.mem_map.mp hx
  exact ⟨z, rfl, h z hz⟩
abbrev s_law_kind : Stmt := top 49
abbrev n_law_kind : List Str := ["_law_source_here", "_law_usual"]
theorem sc_law_kind : FnScope n_law_kind ["_law_source_here", "_law_usual"] (defScope s_law_kind) := ⟨rfl, rfl, rfl, by decide +kernel, rfl, by decide +kernel, by decide +kernel⟩
theorem ok_law_kind (F : FnP K "_law_kind" s_law_kind f fd) (D : DD w K mg) : FnOk P w K mg base CX0 3 f fd ["_law_source_here", "_law_usual"] spKind := by
  have T := D.t
  obtain ⟨f_law_draw, fd_law_draw, g_law_draw, F_law_draw⟩ := D._law_draw
  have G_law_draw := ok_law_draw (P := P) (base := base) F_law_draw D
  have b_law_draw : Binds K fd_law_draw ["_law_source_here", "_law_amount"] [] := F_law_draw.bindsN fun _ _ _ _ _ _ us hl => match us, hl with | [_, _], _ => rfl
  obtain ⟨f_law_pick, fd_law_pick, g_law_pick, F_law_pick⟩ := D._law_pick
  have G_law_pick := ok_law_pick (P := P) (base := base) F_law_pick D
  have b_law_pick : Binds K fd_law_pick ["_law_source_here", "_law_items"] [] := F_law_pick.bindsN fun _ _ _ _ _ _ us hl => match us, hl with | [_, _], _ => rfl
  refine F.ok sc_law_kind (fun vs H Q E h => ?_) (fun cdv A outer s H vs Q E hr h => ?_)
  · obtain ⟨p, z, rfl, _⟩ := h
    rfl
  · obtain ⟨p, z, rfl, hs, hz, hQ⟩ := h
    refine ⟨_, PSs.nox (pss_one (ps_ret (pe_ifExp (pt_cmpR op_gt (pe_call G_law_draw (hr.mono (by decide)) rfl g_law_draw F_law_draw.kp b_law_draw .nil pass0 (pa_cons (pv 0) (pa_cons pe_int pa_nil))) pe_int (nomark _)) (pv 1) (pe_call G_law_pick (hr.mono (by decide)) rfl g_law_pick F_law_pick.kp b_law_pick .nil pass0 (pa_cons (pv 0) (pa_cons (pe_lst (pa_cons pe_str (pa_cons pe_str (pa_cons pe_str (pa_cons pe_str (pa_cons pe_str (pa_cons pe_str pa_nil))))))) pa_nil)))))), ?_⟩
    refine ⟨_, rfl, p, _, rfl, hs, by decide, by decide, fun d H1 d0 d1 l1 => ⟨_, _, rfl, rfl, _, rfl, ?_⟩⟩
    refine ite2 (fun _ => ⟨_, rfl, hQ z H1 hz l1⟩) (fun _ => ⟨_, rfl, le_line (by simp), fun b hb => ?_⟩)
    have e1 := Evl.Ex.new (o := .lst [.str "a", .str "b", .str "c", .str "d", .str "top", .str "a[]"]) hb
    refine ⟨p, b, _, rfl, l1.sc.ex e1, l1.sc.ne hb, upd_same, by simp, by simp, fun x H2 hx l2 => ?_⟩
    obtain ⟨y, rfl, hy⟩ := pickS (zs := ["a", "b", "c", "d", "top", "a[]"]) (S := kS) (by decide +kernel) hx
    exact hQ y H2 hy ((l1.then e1).trans l2)
theorem lx_none {p q : Addr} {H H' : Hp} (l : Lx p H H') (h : H' q = none) : H q = none := by
  cases z : H q with
  | none => rfl
  | some o =>
    by_cases e : q = p
    · subst e
      obtain ⟨N, S, hp, _⟩ := l.sc
      rw [h] at hp
      cases hp
    · have := l.at z e
      rw [h] at this
      cases this
theorem preN {w : Str} {cs : List Nat} {ds : List PyData} (h : forms.lookup w = some ⟨cs.toArray⟩) (q : Its 1 cs ds) (e : (!(w == "call" || w == "ask") || decide (lenD (ds.getD 4 .none) = lenD (ds.getD 6 .none))) = true) : PreP (.tuple (.str w :: ds)) :=
  .i _ ⟨w, _, ds, rfl, h, q, e⟩
theorem preM {w : Str} {cs : List Nat} {ds : List PyData} (h : forms.lookup w = some ⟨cs.toArray⟩) (q : Its 1 cs ds) (e : (!(w == "call" || w == "ask")) = true) : PreP (.tuple (.str w :: ds)) := preN h q (by rw [e]; rfl)
theorem pre1 {p : Addr} {H H1 : Hp} {t b : Addr} {vs : List V} {ds : List PyData} (l : Lx p H H1) (z : DzAll p H1 vs ds) (ht : H1 t = none) (hb : (upd H1 t (.tup vs)) b = none) (hp : PreP (.tuple ds)) : Pre p H (upd (upd H1 t (.tup vs)) b (.lst [.ref t])) b [.ref t] [.tuple ds] 2 := by
  have e1 := Evl.Ex.new (o := .tup vs) ht
  have e2 := Evl.Ex.new (o := .lst [.ref t]) hb
  refine ⟨(l.then e1).then e2, lx_none (l.then e1) hb, upd_same, ?_, by simp, fun d hd => by rw [List.mem_singleton.mp hd]; exact hp⟩
  have z1 : DzAll p (upd H1 t (.tup vs)) [.ref t] [.tuple ds] := .cons (Dz.tupN l.sc ht z) .nil
  exact DzAll.lx z1 (.of (l.then e1).sc e2)
abbrev s_law_jump : Stmt := top 50
abbrev n_law_jump : List Str := ["_law_source_here", "_law_drawer", "_law_name", "_law_word"]
theorem sc_law_jump : FnScope n_law_jump ["_law_source_here", "_law_drawer", "_law_name"] (defScope s_law_jump) := ⟨rfl, rfl, rfl, by decide +kernel, rfl, by decide +kernel, by decide +kernel⟩
theorem ok_law_jump (F : FnP K "_law_jump" s_law_jump f fd) (D : DD w K mg) : FnOk P w K mg base CX0 3 f fd ["_law_source_here", "_law_drawer", "_law_name"] (spPre (fun p vs => ∃ (r : Nat) (z : Str), vs = [.ref p, .int r, .str z] ∧ r < 5 ∧ z ∈ nmS) 2) := by
  have T := D.t
  obtain ⟨f_law_pick, fd_law_pick, g_law_pick, F_law_pick⟩ := D._law_pick
  have G_law_pick := ok_law_pick (P := P) (base := base) F_law_pick D
  have b_law_pick : Binds K fd_law_pick ["_law_source_here", "_law_items"] [] := F_law_pick.bindsN fun _ _ _ _ _ _ us hl => match us, hl with | [_, _], _ => rfl
  refine F.ok sc_law_jump (fun vs H Q E h => ?_) (fun cdv A outer s H vs Q E hr h => ?_)
  · obtain ⟨p, ⟨r, z, rfl, _⟩, _⟩ := h
    rfl
  · obtain ⟨p, ⟨r, z, rfl, hr5, hz⟩, hs, hQ⟩ := h
    refine ⟨_, PSs.nox (pss_cons (ps_set (i := 3) sc_law_jump.nd rfl (Or.inl rfl) (pe_call G_law_pick (hr.mono (by decide)) rfl g_law_pick F_law_pick.kp b_law_pick .nil pass0 (pa_cons (pv 0) (pa_cons (pe_lst (pa_cons pe_str (pa_cons pe_str (pa_cons pe_str (pa_cons pe_str (pa_cons pe_str pa_nil)))))) pa_nil))))
      (pss_cons (ps_if (pt_cmpR op_eq (pv 3) pe_str (nomark _))
        (pss_one (ps_ret (pe_lst (pa_cons (pe_tup (pa_cons (pv 3) (pa_cons (pv 1) (pa_cons (pv 2) (pa_cons pe_non pa_nil))))) pa_nil))))
        pss_nil)
      (pss_one (ps_ret (pe_lst (pa_cons (pe_ifExp (pt_cmpR op_eq (pv 3) pe_str (nomark _)) (pe_tup (pa_cons (pv 3) (pa_cons (pv 1) (pa_cons pe_non pa_nil)))) (pe_tup (pa_cons (pv 3) (pa_cons pe_non pa_nil)))) pa_nil)))))), ?_⟩
    refine ⟨_, rfl, le_line (by simp), fun b hb => ?_⟩
    have e1 := Evl.Ex.new (o := .lst [.str "ifis", .str "ifnull", .str "choose", .str "choose", .str "jump"]) hb
    refine ⟨p, b, _, rfl, hs.ex e1, hs.ne hb, upd_same, by simp, by simp, fun x H2 hx l2 => ?_⟩
    have l := (Lx.of hs e1).trans l2
    obtain ⟨y, rfl, hy⟩ := pickS (zs := ["ifis", "ifnull", "choose", "choose", "jump"]) (S := ["ifis", "ifnull", "choose", "jump"]) (by decide +kernel) hx
    refine ⟨_, rfl, rfl, _, rfl, ?_⟩
    simp only [List.mem_cons, List.not_mem_nil, or_false] at hy
    rcases hy with rfl | rfl | rfl | rfl
    · refine ifT rfl ⟨_, rfl, _, rfl, _, rfl, le_line (by simp), fun t ht => ⟨le_line (by simp), fun b hb => hQ _ _ _ _ (pre1 l (.cons (.str _) (.cons (.int _) (.cons (.str _) (.cons .non .nil)))) ht hb (.ifis r z hr5 hz))⟩⟩
    · refine ifF rfl ⟨_, rfl, rfl, _, rfl, ifT rfl ⟨_, rfl, _, rfl, le_line (by simp), fun t ht => ⟨le_line (by simp), fun b hb => hQ _ _ _ _ (pre1 l (.cons (.str _) (.cons (.int _) (.cons .non .nil))) ht hb (.ifnull r hr5))⟩⟩⟩
    · refine ifF rfl ⟨_, rfl, rfl, _, rfl, ifF rfl ⟨_, rfl, le_line (by simp), fun t ht => ⟨le_line (by simp), fun b hb => hQ _ _ _ _ (pre1 l (.cons (.str _) (.cons .non .nil)) ht hb .choose)⟩⟩⟩
    · refine ifF rfl ⟨_, rfl, rfl, _, rfl, ifF rfl ⟨_, rfl, le_line (by simp), fun t ht => ⟨le_line (by simp), fun b hb => hQ _ _ _ _ (pre1 l (.cons (.str _) (.cons .non .nil)) ht hb .jump)⟩⟩⟩
end
end K50

set_option Elab.async false
set_option linter.all false
set_option maxRecDepth 100000
set_option maxHeartbeats 0
namespace K50
open PySem PySem.Spec PyProof.Rows L2 EX2
theorem preL {p : Addr} {H H1 : Hp} {b : Addr} {xs : List V} {ds : List PyData} {k : Nat} (l : Lx p H H1) (z : DzAll p H1 xs ds) (hb : H1 b = none) (hl : ds.length ≤ k) (hp : ∀ d ∈ ds, PreP d) : Pre p H (upd H1 b (.lst xs)) b xs ds k :=
  ⟨l.then (Evl.Ex.new hb), lx_none l hb, upd_same, DzAll.lx z (.of l.sc (Evl.Ex.new hb)), hl, hp⟩
theorem ixS (zs : List Str) {d : Int} (h0 : 0 ≤ d) (h1 : d < zs.length) : ∃ y, L2.atI (zs.map V.str) d = some (.str y) ∧ y ∈ zs := by
  obtain ⟨k, rfl⟩ := Int.eq_ofNat_of_zero_le h0
  have hk : k < zs.length := by omega
  exact ⟨zs[k], atI_nat (by rw [List.getElem?_map, List.getElem?_eq_getElem hk]; rfl), List.getElem_mem hk⟩
theorem int_ne {d k : Int} (h : ¬ d = k) : decide (V.int d = V.int k) = false := decide_eq_false fun z => by cases z; exact h rfl
theorem one_pre {d : PyData} (h : PreP d) : ∀ e ∈ [d], PreP e := fun e he => by rw [List.mem_singleton.mp he]; exact h
section
variable {P : Program} {w : World} {K : PySem.W.Frag} {mg : Str → Option Value} {base : Heap} {f : Addr} {fd : FuncData}
abbrev s_law_arrays : Stmt := top 51
abbrev n_law_arrays : List Str := ["_law_source_here", "_law_drawer", "_law_way"]
theorem sc_law_arrays : FnScope n_law_arrays ["_law_source_here", "_law_drawer"] (defScope s_law_arrays) := ⟨rfl, rfl, rfl, by decide +kernel, rfl, by decide +kernel, by decide +kernel⟩
theorem ok_law_arrays (F : FnP K "_law_arrays" s_law_arrays f fd) (D : DD w K mg) : FnOk P w K mg base CX0 3 f fd ["_law_source_here", "_law_drawer"] (spPre (fun p vs => ∃ (r : Nat), vs = [.ref p, .int r] ∧ r < 5) 2) := by
  have T := D.t
  obtain ⟨f_law_draw, fd_law_draw, g_law_draw, F_law_draw⟩ := D._law_draw
  have G_law_draw := ok_law_draw (P := P) (base := base) F_law_draw D
  have b_law_draw : Binds K fd_law_draw ["_law_source_here", "_law_amount"] [] := F_law_draw.bindsN fun _ _ _ _ _ _ us hl => match us, hl with | [_, _], _ => rfl
  obtain ⟨f_law_pick, fd_law_pick, g_law_pick, F_law_pick⟩ := D._law_pick
  have G_law_pick := ok_law_pick (P := P) (base := base) F_law_pick D
  have b_law_pick : Binds K fd_law_pick ["_law_source_here", "_law_items"] [] := F_law_pick.bindsN fun _ _ _ _ _ _ us hl => match us, hl with | [_, _], _ => rfl
  refine F.ok sc_law_arrays (fun vs H Q E h => ?_) (fun cdv A outer s H vs Q E hr h => ?_)
  · obtain ⟨p, ⟨r, rfl, _⟩, _⟩ := h
    rfl
  · obtain ⟨p, ⟨r, rfl, hr5⟩, hs, hQ⟩ := h
    refine ⟨_, PSs.nox (pss_cons (ps_set (i := 2) sc_law_arrays.nd rfl (Or.inl rfl) (pe_call G_law_draw (hr.mono (by decide)) rfl g_law_draw F_law_draw.kp b_law_draw .nil pass0 (pa_cons (pv 0) (pa_cons pe_int pa_nil))))
      (pss_cons (ps_if (pt_cmpR op_eq (pv 2) pe_int (nomark _))
        (pss_one (ps_ret (pe_lst (pa_cons (pe_tup (pa_cons pe_str (pa_cons pe_int (pa_cons (pe_call G_law_pick (hr.mono (by decide)) rfl g_law_pick F_law_pick.kp b_law_pick .nil pass0 (pa_cons (pv 0) (pa_cons (pe_lst (pa_cons pe_str (pa_cons pe_str (pa_cons pe_str (pa_cons pe_str pa_nil))))) pa_nil))) (pa_cons pe_int pa_nil))))) (pa_cons (pe_tup (pa_cons pe_str (pa_cons pe_int (pa_cons pe_int (pa_cons (pv 1) pa_nil))))) pa_nil)))))
        pss_nil)
      (pss_one (ps_ret (pe_ix ix_list (pe_lst (pa_cons (pe_lst (pa_cons (pe_tup (pa_cons pe_str (pa_cons pe_int (pa_cons (pe_call G_law_draw (hr.mono (by decide)) rfl g_law_draw F_law_draw.kp b_law_draw .nil pass0 (pa_cons (pv 0) (pa_cons pe_int pa_nil))) (pa_cons (pv 1) pa_nil))))) pa_nil)) (pa_cons (pe_lst (pa_cons (pe_tup (pa_cons pe_str (pa_cons pe_int (pa_cons pe_int (pa_cons (pe_call G_law_draw (hr.mono (by decide)) rfl g_law_draw F_law_draw.kp b_law_draw .nil pass0 (pa_cons (pv 0) (pa_cons pe_int pa_nil))) pa_nil))))) pa_nil)) pa_nil))) (pe_op op_sub (pv 2) pe_int) (fun _ _ => rfl)))))), ?_⟩
    refine ⟨_, rfl, p, _, rfl, hs, by decide, by decide, fun d H1 d0 d1 l1 => ⟨_, rfl, rfl, _, rfl, ?_⟩⟩
    by_cases h0 : d = 0
    · subst h0
      refine ifT rfl ⟨_, rfl, le_line (by simp), fun b hb => ?_⟩
      have e1 := Evl.Ex.new (o := .lst [.str "a", .str "b", .str "c", .str "top"]) hb
      refine ⟨p, b, _, rfl, l1.sc.ex e1, l1.sc.ne hb, upd_same, by simp, by simp, fun x H2 hx l2 => ⟨le_line (by simp), fun t1 ht1 => ⟨_, rfl, le_line (by simp), fun t2 ht2 => ⟨le_line (by simp), fun b2 hb2 => ?_⟩⟩⟩⟩
      have l := (l1.then e1).trans l2
      obtain ⟨y, rfl, hy⟩ := pickS (zs := ["a", "b", "c", "top"]) (S := nmS) (by decide +kernel) hx
      have f1 := Evl.Ex.new (o := .tup [.str "array", .int 4, .str y, .int 2]) ht1
      have f2 := Evl.Ex.new (o := .tup [.str "store", .int 4, .int 1, .int r]) ht2
      have z1 := Dz.tupN l.sc ht1 (ds := [.str "array", iD 4, .str y, iD 2]) (.cons (.str _) (.cons (.int _) (.cons (.str _) (.cons (.int _) .nil))))
      have z2 := Dz.tupN (l.then f1).sc ht2 (ds := [.str "store", iD 4, iD 1, iD r]) (.cons (.str _) (.cons (.int _) (.cons (.int _) (.cons (.int _) .nil))))
      refine hQ _ _ _ _ (preL ((l.then f1).then f2) (.cons (z1.lx (.of (l.then f1).sc f2)) (.cons z2 .nil)) hb2 (by simp) fun e he => ?_)
      simp only [List.mem_cons, List.not_mem_nil, or_false] at he
      rcases he with rfl | rfl
      · exact preM (w := "array") (cs := [114, 99, 110]) (by decide +kernel) (.cons (.r 4 (by decide)) (.cons (.c y hy) (.cons (.n 2 (by decide)) .nil))) (by decide +kernel)
      · exact preM (w := "store") (cs := [114, 110, 114]) (by decide +kernel) (.cons (.r 4 (by decide)) (.cons (.n 1 (by decide)) (.cons (.r r hr5) .nil))) (by decide +kernel)
    · refine ifF (int_ne h0) ⟨_, rfl, p, _, rfl, l1.sc, by decide, by decide, fun k H2 k0 k1 l2 => ⟨_, rfl, le_line (by simp), fun t1 ht1 => ⟨le_line (by simp), fun b1 hb1 => ?_⟩⟩⟩
      obtain ⟨k, rfl⟩ := Int.eq_ofNat_of_zero_le k0
      have l := l1.trans l2
      have f1 := Evl.Ex.new (o := .tup [.str "store", .int 4, .int k, .int r]) ht1
      have f2 := Evl.Ex.new (o := .lst [.ref t1]) hb1
      have z1 := Dz.tupN l.sc ht1 (ds := [.str "store", iD 4, iD k, iD r]) (.cons (.str _) (.cons (.int _) (.cons (.int _) (.cons (.int _) .nil))))
      have l3 := (l.then f1).then f2
      refine ⟨_, rfl, p, _, rfl, l3.sc, by decide, by decide, fun j H3 j0 j1 l4 => ⟨le_line (by simp), fun t2 ht2 => ⟨le_line (by simp), fun b2 hb2 => ⟨le_line (by simp), fun b3 hb3 => ⟨_, rfl, _, _, rfl, rfl, ?_⟩⟩⟩⟩⟩
      obtain ⟨j, rfl⟩ := Int.eq_ofNat_of_zero_le j0
      have f3 := Evl.Ex.new (o := .tup [.str "load", .int 3, .int 4, .int j]) ht2
      have f4 := Evl.Ex.new (o := .lst [.ref t2]) hb2
      have f5 := Evl.Ex.new (o := .lst [.ref b1, .ref b2]) hb3
      have l5 := l3.trans l4
      have z2 := Dz.tupN l5.sc ht2 (ds := [.str "load", iD 3, iD 4, iD j]) (.cons (.str _) (.cons (.int _) (.cons (.int _) (.cons (.int _) .nil))))
      have l6 := (l5.then f3).then f4
      have l7 := l6.then f5
      have nb1 := (l.then f1).sc.ne hb1
      have hb1' := (l4.at (upd_same (a := b1) (o := .lst [.ref t1])) nb1)
      obtain ⟨d, rfl⟩ := Int.eq_ofNat_of_zero_le d0
      have hd : d = 1 ∨ d = 2 := by omega
      rcases hd with rfl | rfl
      · refine ⟨b3, _, _, _, rfl, rfl, SqL.of upd_same, atI_nat (j := 0) rfl, hQ _ _ _ _ ⟨l7, lx_none (l.then f1) hb1, (f3.trans (f4.trans f5)) _ _ hb1', ?_, by simp, one_pre (d := .tuple [.str "store", iD 4, iD k, iD r]) (preM (w := "store") (cs := [114, 110, 114]) (by decide +kernel) (.cons (.r 4 (by decide)) (.cons (.n k (by omega)) (.cons (.r r hr5) .nil))) (by decide +kernel))⟩⟩
        exact DzAll.lx (DzAll.lx (DzAll.lx (.cons z1 .nil) (.of (l.then f1).sc f2)) l4) (.of l5.sc (f3.trans (f4.trans f5)))
      · refine ⟨b3, _, _, _, rfl, rfl, SqL.of upd_same, atI_nat (j := 1) rfl, hQ _ _ _ _ ⟨l7, lx_none (l5.then f3) hb2, f5 _ _ upd_same, ?_, by simp, one_pre (d := .tuple [.str "load", iD 3, iD 4, iD j]) (preM (w := "load") (cs := [114, 114, 110]) (by decide +kernel) (.cons (.r 3 (by decide)) (.cons (.r 4 (by decide)) (.cons (.n j (by omega)) .nil))) (by decide +kernel))⟩⟩
        exact DzAll.lx (.cons z2 .nil) (.of (l5.then f3).sc (f4.trans f5))
abbrev s_law_calls : Stmt := top 52
abbrev n_law_calls : List Str := ["_law_source_here", "_law_drawer", "_law_name", "_law_word", "_law_high"]
theorem sc_law_calls : FnScope n_law_calls ["_law_source_here", "_law_drawer", "_law_name"] (defScope s_law_calls) := ⟨rfl, rfl, rfl, by decide +kernel, rfl, by decide +kernel, by decide +kernel⟩
theorem ok_law_calls (F : FnP K "_law_calls" s_law_calls f fd) (D : DD w K mg) : FnOk P w K mg base CX0 4 f fd ["_law_source_here", "_law_drawer", "_law_name"] (spPre (fun p vs => ∃ (r : Nat) (z : Str), vs = [.ref p, .int r, .str z] ∧ r < 5 ∧ z ∈ nmS) 2) := by
  have T := D.t
  obtain ⟨f_law_draw, fd_law_draw, g_law_draw, F_law_draw⟩ := D._law_draw
  have G_law_draw := ok_law_draw (P := P) (base := base) F_law_draw D
  have b_law_draw : Binds K fd_law_draw ["_law_source_here", "_law_amount"] [] := F_law_draw.bindsN fun _ _ _ _ _ _ us hl => match us, hl with | [_, _], _ => rfl
  obtain ⟨f_law_pick, fd_law_pick, g_law_pick, F_law_pick⟩ := D._law_pick
  have G_law_pick := ok_law_pick (P := P) (base := base) F_law_pick D
  have b_law_pick : Binds K fd_law_pick ["_law_source_here", "_law_items"] [] := F_law_pick.bindsN fun _ _ _ _ _ _ us hl => match us, hl with | [_, _], _ => rfl
  obtain ⟨f_law_kind, fd_law_kind, g_law_kind, F_law_kind⟩ := D._law_kind
  have G_law_kind := ok_law_kind (P := P) (base := base) F_law_kind D
  have b_law_kind : Binds K fd_law_kind ["_law_source_here", "_law_usual"] [] := F_law_kind.bindsN fun _ _ _ _ _ _ us hl => match us, hl with | [_, _], _ => rfl
  refine F.ok sc_law_calls (fun vs H Q E h => ?_) (fun cdv A outer s H vs Q E hr h => ?_)
  · obtain ⟨p, ⟨r, z, rfl, _⟩, _⟩ := h
    rfl
  · obtain ⟨p, ⟨r, z, rfl, hr5, hz⟩, hs, hQ⟩ := h
    refine ⟨_, PSs.nox (pss_cons (ps_set (i := 3) sc_law_calls.nd rfl (Or.inl rfl) (pe_ix ix_list (pe_lst (pa_cons pe_str (pa_cons pe_str (pa_cons pe_str pa_nil)))) (pe_call G_law_draw (hr.mono (by decide)) rfl g_law_draw F_law_draw.kp b_law_draw .nil pass0 (pa_cons (pv 0) (pa_cons pe_int pa_nil))) (fun _ _ => rfl)))
      (Evl.pss_cut (ps_set (i := 4) sc_law_calls.nd rfl (Or.inl rfl) (pe_ifExp (pt_cmpR op_eq (pv 3) pe_str (nomark _)) (pv 2) (pe_call G_law_pick (hr.mono (by decide)) rfl g_law_pick F_law_pick.kp b_law_pick .nil pass0 (pa_cons (pv 0) (pa_cons (pe_lst (pa_cons pe_str (pa_cons pe_str (pa_cons pe_str (pa_cons pe_str pa_nil))))) pa_nil)))))
      (pss_cons (ps_if (pt_cmpR op_eq (pe_call G_law_draw (hr.mono (by decide)) rfl g_law_draw F_law_draw.kp b_law_draw .nil pass0 (pa_cons (pv 0) (pa_cons pe_int pa_nil))) pe_int (nomark _))
        (pss_one (ps_ret (pe_lst (pa_cons (pe_tup (pa_cons (pv 3) (pa_cons pe_int (pa_cons (pv 1) (pa_cons (pv 4) (pa_cons pe_str (pa_cons (pe_tup pa_nil) (pa_cons (pe_call G_law_kind (hr.mono (by decide)) rfl g_law_kind F_law_kind.kp b_law_kind .nil pass0 (pa_cons (pv 0) (pa_cons pe_str pa_nil))) (pa_cons (pe_tup pa_nil) pa_nil))))))))) pa_nil))))
        pss_nil)
      (pss_one (ps_ret (pe_lst (pa_cons (pe_tup (pa_cons (pv 3) (pa_cons pe_int (pa_cons (pv 1) (pa_cons (pv 4) (pa_cons pe_str (pa_cons (pe_tup (pa_cons (pe_call G_law_kind (hr.mono (by decide)) rfl g_law_kind F_law_kind.kp b_law_kind .nil pass0 (pa_cons (pv 0) (pa_cons pe_str pa_nil))) pa_nil)) (pa_cons (pe_call G_law_kind (hr.mono (by decide)) rfl g_law_kind F_law_kind.kp b_law_kind .nil pass0 (pa_cons (pv 0) (pa_cons pe_str pa_nil))) (pa_cons (pe_tup (pa_cons pe_int pa_nil)) pa_nil))))))))) pa_nil))))))), ?_⟩
    refine ⟨le_line (by simp), fun b hb => ?_⟩
    have e1 := Evl.Ex.new (o := .lst [.str "call", .str "call", .str "ask"]) hb
    refine ⟨_, rfl, p, _, rfl, hs.ex e1, by decide, by decide, fun d H1 d0 d1 l1 => ?_⟩
    obtain ⟨y, hy, hyc⟩ := ixS ["call", "call", "ask"] d0 (by simpa using d1)
    have lA := (Lx.of hs e1).trans l1
    refine ⟨b, _, _, _, rfl, rfl, SqL.of (l1.at upd_same (hs.ne hb)), hy, ?_⟩
    refine ⟨fun σ' H' => ∃ z' : Str, σ' = [some (.ref p), some (.int r), some (.str z), some (.str y), some (.str z')] ∧ z' ∈ nmS ∧ Lx p H H', ?_, ?_⟩
    · refine ⟨_, rfl, rfl, _, rfl, ?_⟩
      refine ite2 (fun _ => ⟨_, rfl, z, rfl, hz, lA⟩) (fun _ => ⟨_, rfl, le_line (by simp), fun b2 hb2 => ?_⟩)
      have e2 := Evl.Ex.new (o := .lst [.str "a", .str "b", .str "c", .str "d"]) hb2
      refine ⟨p, b2, _, rfl, lA.sc.ex e2, lA.sc.ne hb2, upd_same, by simp, by simp, fun x H2 hx l2 => ?_⟩
      obtain ⟨z', rfl, hz'⟩ := pickS (zs := ["a", "b", "c", "d"]) (S := nmS) (by decide +kernel) hx
      exact ⟨z', rfl, hz', (lA.then e2).trans l2⟩
    rintro σ' H2 ⟨z', rfl, hz', lB⟩
    have hyw : ∀ {ds : List PyData}, Its 1 [114, 114, 99, 102, 121, 116, 120] ds → lenD (ds.getD 4 .none) = lenD (ds.getD 6 .none) → PreP (.tuple (.str y :: ds)) := fun q e => by
      simp only [List.mem_cons, List.not_mem_nil, or_false] at hyc
      rcases hyc with rfl | rfl | rfl
      · exact preN (cs := [114, 114, 99, 102, 121, 116, 120]) (by decide +kernel) q (by rw [decide_eq_true e, Bool.or_true])
      · exact preN (cs := [114, 114, 99, 102, 121, 116, 120]) (by decide +kernel) q (by rw [decide_eq_true e, Bool.or_true])
      · exact preN (cs := [114, 114, 99, 102, 121, 116, 120]) (by decide +kernel) q (by rw [decide_eq_true e, Bool.or_true])
    refine ⟨_, rfl, p, _, rfl, lB.sc, by decide, by decide, fun d2 H3 _ _ l3 => ⟨rfl, _, rfl, ?_⟩⟩
    have lC := lB.trans l3
    refine ite2 (fun _ => ?_) (fun _ => ?_)
    · refine ⟨_, rfl, _, rfl, _, rfl, le_line (by simp), fun t1 ht1 => ⟨_, rfl, p, "a", rfl, ?_, by decide +kernel, fun k H4 hk l4 => ⟨le_line (by simp), fun t2 ht2 => ⟨le_line (by simp), fun t3 ht3 => ⟨le_line (by simp), fun b4 hb4 => ?_⟩⟩⟩⟩⟩
      · exact lC.sc.ex (Evl.Ex.new ht1)
      have f1 := Evl.Ex.new (o := .tup []) ht1
      have f2 := Evl.Ex.new (o := .tup []) ht2
      have lD := (lC.then f1).trans l4
      have z1 := Dz.tupN lC.sc ht1 (xs := []) (ds := []) .nil
      have z2 := Dz.tupN lD.sc ht2 (xs := []) (ds := []) .nil
      have zt := Dz.tupN (lD.then f2).sc ht3 (xs := [.str y, .int 1, .int r, .str z', .str "n", .ref t1, .str k, .ref t2]) (ds := [.str y, iD 1, iD r, .str z', .str "n", .tuple [], .str k, .tuple []])
        (.cons (.str _) (.cons (.int _) (.cons (.int _) (.cons (.str _) (.cons (.str _) (.cons ((z1.lx l4).lx (.of lD.sc f2)) (.cons (.str _) (.cons z2 .nil))))))))
      have f3 := Evl.Ex.new (o := .tup [.str y, .int 1, .int r, .str z', .str "n", .ref t1, .str k, .ref t2]) ht3
      exact hQ _ _ _ _ (preL ((lD.then f2).then f3) (.cons zt .nil) hb4 (by simp) (one_pre (hyw (.cons (.r 1 (by decide)) (.cons (.r r hr5) (.cons (.c z' hz') (.cons (.f "n" (by decide +kernel)) (.cons (.y [] (by simp) (fun _ h => nomatch h)) (.cons (.t k hk) (.cons (.x [] (by simp) (fun _ h => nomatch h)) .nil))))))) rfl)))
    · refine ⟨_, rfl, _, rfl, _, rfl, _, rfl, p, "a", rfl, lC.sc, by decide +kernel, fun k1 H4 hk1 l4 => ⟨le_line (by simp), fun t1 ht1 => ⟨_, rfl, p, "b", rfl, ?_, by decide +kernel, fun k H5 hk l5 => ⟨le_line (by simp), fun t2 ht2 => ⟨le_line (by simp), fun t3 ht3 => ⟨le_line (by simp), fun b4 hb4 => ?_⟩⟩⟩⟩⟩⟩
      · exact (lC.trans l4).sc.ex (Evl.Ex.new ht1)
      have lC2 := lC.trans l4
      have f1 := Evl.Ex.new (o := .tup [.str k1]) ht1
      have f2 := Evl.Ex.new (o := .tup [.int 1]) ht2
      have lD := (lC2.then f1).trans l5
      have z1 := Dz.tupN lC2.sc ht1 (xs := [.str k1]) (ds := [.str k1]) (.cons (.str _) .nil)
      have z2 := Dz.tupN lD.sc ht2 (xs := [.int 1]) (ds := [iD 1]) (.cons (.int _) .nil)
      have zt := Dz.tupN (lD.then f2).sc ht3 (xs := [.str y, .int 2, .int r, .str z', .str "m", .ref t1, .str k, .ref t2]) (ds := [.str y, iD 2, iD r, .str z', .str "m", .tuple [.str k1], .str k, .tuple [iD 1]])
        (.cons (.str _) (.cons (.int _) (.cons (.int _) (.cons (.str _) (.cons (.str _) (.cons ((z1.lx l5).lx (.of lD.sc f2)) (.cons (.str _) (.cons z2 .nil))))))))
      have f3 := Evl.Ex.new (o := .tup [.str y, .int 2, .int r, .str z', .str "m", .ref t1, .str k, .ref t2]) ht3
      exact hQ _ _ _ _ (preL ((lD.then f2).then f3) (.cons zt .nil) hb4 (by simp) (one_pre (hyw (.cons (.r 2 (by decide)) (.cons (.r r hr5) (.cons (.c z' hz') (.cons (.f "m" (by decide +kernel)) (.cons (.y [k1] (by simp) (fun z h => by rw [List.mem_singleton.mp h]; exact hk1)) (.cons (.t k hk) (.cons (.x [1] (by simp) (fun i h => by rw [List.mem_singleton.mp h]; decide)) .nil))))))) rfl)))
theorem prT {p : Addr} {H H1 H2 : Hp} {L : Addr} {xs : List V} {ds : List PyData} {k : Nat} (l : Lx p H H1) (q : Pre p H1 H2 L xs ds k) : Pre p H H2 L xs ds k := ⟨l.trans q.1, lx_none l q.2.1, q.2.2.1, q.2.2.2.1, q.2.2.2.2.1, q.2.2.2.2.2⟩
theorem lt_dec {i j : Int} (h : decide (i < j) = true) : i < j := of_decide_eq_true h
theorem nlt_dec {i j : Int} (h : ¬ decide (i < j) = true) : ¬ i < j := fun q => h (decide_eq_true q)
theorem eq_dec {i j : Int} (h : decide (V.int i = V.int j) = true) : i = j := V.int.inj (of_decide_eq_true h)
theorem neq_dec {i j : Int} (h : ¬ decide (V.int i = V.int j) = true) : ¬ i = j := fun q => h (decide_eq_true (by rw [q]))
theorem fgS : ∀ y ∈ (["f", "g"] : List Str), y ∈ fS := by decide +kernel
theorem abS : ∀ y ∈ (["a", "b"] : List Str), y ∈ kS := by decide +kernel
theorem abcS : ∀ y ∈ (["a", "b", "c"] : List Str), y ∈ nmS := by decide +kernel
abbrev s_law_steps : Stmt := top 53
abbrev n_law_steps : List Str := ["_law_source_here", "_law_owner", "_law_way", "_law_place", "_law_other", "_law_name", "_law_own"]
theorem sc_law_steps : FnScope n_law_steps ["_law_source_here", "_law_owner"] (defScope s_law_steps) := ⟨rfl, rfl, rfl, by decide +kernel, rfl, by decide +kernel, by decide +kernel⟩
theorem ok_law_steps (F : FnP K "_law_steps" s_law_steps f fd) (D : DD w K mg) : FnOk P w K mg base CX0 5 f fd ["_law_source_here", "_law_owner"] (spPre (fun p vs => ∃ (z : Str), vs = [.ref p, .str z] ∧ z ∈ nmS) 2) := by
  have T := D.t
  obtain ⟨f_law_draw, fd_law_draw, g_law_draw, F_law_draw⟩ := D._law_draw
  have G_law_draw := ok_law_draw (P := P) (base := base) F_law_draw D
  have b_law_draw : Binds K fd_law_draw ["_law_source_here", "_law_amount"] [] := F_law_draw.bindsN fun _ _ _ _ _ _ us hl => match us, hl with | [_, _], _ => rfl
  obtain ⟨f_law_pick, fd_law_pick, g_law_pick, F_law_pick⟩ := D._law_pick
  have G_law_pick := ok_law_pick (P := P) (base := base) F_law_pick D
  have b_law_pick : Binds K fd_law_pick ["_law_source_here", "_law_items"] [] := F_law_pick.bindsN fun _ _ _ _ _ _ us hl => match us, hl with | [_, _], _ => rfl
  obtain ⟨f_law_kind, fd_law_kind, g_law_kind, F_law_kind⟩ := D._law_kind
  have G_law_kind := ok_law_kind (P := P) (base := base) F_law_kind D
  have b_law_kind : Binds K fd_law_kind ["_law_source_here", "_law_usual"] [] := F_law_kind.bindsN fun _ _ _ _ _ _ us hl => match us, hl with | [_, _], _ => rfl
  obtain ⟨f_law_calls, fd_law_calls, g_law_calls, F_law_calls⟩ := D._law_calls
  have G_law_calls := ok_law_calls (P := P) (base := base) F_law_calls D
  have b_law_calls : Binds K fd_law_calls ["_law_source_here", "_law_drawer", "_law_name"] [] := F_law_calls.bindsN fun _ _ _ _ _ _ us hl => match us, hl with | [_, _, _], _ => rfl
  obtain ⟨f_law_arrays, fd_law_arrays, g_law_arrays, F_law_arrays⟩ := D._law_arrays
  have G_law_arrays := ok_law_arrays (P := P) (base := base) F_law_arrays D
  have b_law_arrays : Binds K fd_law_arrays ["_law_source_here", "_law_drawer"] [] := F_law_arrays.bindsN fun _ _ _ _ _ _ us hl => match us, hl with | [_, _], _ => rfl
  obtain ⟨f_law_jump, fd_law_jump, g_law_jump, F_law_jump⟩ := D._law_jump
  have G_law_jump := ok_law_jump (P := P) (base := base) F_law_jump D
  have b_law_jump : Binds K fd_law_jump ["_law_source_here", "_law_drawer", "_law_name"] [] := F_law_jump.bindsN fun _ _ _ _ _ _ us hl => match us, hl with | [_, _, _], _ => rfl
  refine F.ok sc_law_steps (fun vs H Q E h => ?_) (fun cdv A outer s H vs Q E hr h => ?_)
  · obtain ⟨p, ⟨z, rfl, _⟩, _⟩ := h
    rfl
  · obtain ⟨p, ⟨z, rfl, hz⟩, hs, hQ⟩ := h
    refine ⟨_, PSs.nox (pss_cons (ps_par3 (i := 2) (j := 3) (l := 4) rfl sc_law_steps.nd rfl rfl rfl (by decide) (by decide) (by decide) rfl rfl rfl (pa_cons (pe_call G_law_draw (hr.mono (by decide)) rfl g_law_draw F_law_draw.kp b_law_draw .nil pass0 (pa_cons (pv 0) (pa_cons pe_int pa_nil))) (pa_cons (pe_op op_add pe_int (pe_call G_law_draw (hr.mono (by decide)) rfl g_law_draw F_law_draw.kp b_law_draw .nil pass0 (pa_cons (pv 0) (pa_cons pe_int pa_nil)))) (pa_cons (pe_call G_law_draw (hr.mono (by decide)) rfl g_law_draw F_law_draw.kp b_law_draw .nil pass0 (pa_cons (pv 0) (pa_cons pe_int pa_nil))) pa_nil))) (by rfl))
      (pss_cons (ps_set (i := 5) sc_law_steps.nd rfl (Or.inl rfl) (pe_ix ix_list (pe_lst (pa_cons (pv 1) (pa_cons pe_str (pa_cons pe_str (pa_cons pe_str pa_nil))))) (pv 4) (fun _ _ => rfl)))
      (Evl.pss_cut (ps_set (i := 5) sc_law_steps.nd rfl (Or.inl rfl) (pe_ifExp (pt_cmpR op_gt (pe_call G_law_draw (hr.mono (by decide)) rfl g_law_draw F_law_draw.kp b_law_draw .nil pass0 (pa_cons (pv 0) (pa_cons pe_int pa_nil))) pe_int (nomark _)) (pv 5) (pe_call G_law_pick (hr.mono (by decide)) rfl g_law_pick F_law_pick.kp b_law_pick .nil pass0 (pa_cons (pv 0) (pa_cons (pe_lst (pa_cons pe_str (pa_cons pe_str (pa_cons pe_str (pa_cons pe_str (pa_cons pe_str pa_nil)))))) pa_nil)))))
      (pss_cons (ps_set (i := 6) sc_law_steps.nd rfl (Or.inl rfl) (pe_ix ix_list (pe_lst (pa_cons pe_str (pa_cons pe_str (pa_cons pe_str (pa_cons pe_str pa_nil))))) (pv 3) (fun _ _ => rfl)))
      (pss_cons (ps_if (pt_cmpR op_lt (pv 2) pe_int (nomark _))
        (pss_one (ps_ret (pe_lst (pa_cons (pe_tup (pa_cons pe_str (pa_cons (pv 3) (pa_cons (pe_ifExp (pt_cmpR op_gt (pe_call G_law_draw (hr.mono (by decide)) rfl g_law_draw F_law_draw.kp b_law_draw .nil pass0 (pa_cons (pv 0) (pa_cons pe_int pa_nil))) pe_int (nomark _)) (pv 6) pe_str) pa_nil)))) pa_nil))))
        pss_nil)
      (pss_cons (ps_if (pt_cmpR op_eq (pv 2) pe_int (nomark _))
        (pss_one (ps_ret (pe_lst (pa_cons (pe_tup (pa_cons pe_str (pa_cons (pv 4) pa_nil))) pa_nil))))
        pss_nil)
      (pss_cons (ps_if (pt_cmpR op_lt (pv 2) pe_int (nomark _))
        (pss_one (ps_ret (pe_lst (pa_cons (pe_tup (pa_cons pe_str (pa_cons (pv 4) (pa_cons (pv 5) (pa_cons (pe_ix ix_list (pe_lst (pa_cons pe_str (pa_cons pe_str pa_nil))) (pe_op op_sub (pv 2) pe_int) (fun _ _ => rfl)) (pa_cons (pe_call G_law_kind (hr.mono (by decide)) rfl g_law_kind F_law_kind.kp b_law_kind .nil pass0 (pa_cons (pv 0) (pa_cons (pe_ix ix_list (pe_lst (pa_cons pe_str (pa_cons pe_str pa_nil))) (pe_op op_sub (pv 2) pe_int) (fun _ _ => rfl)) pa_nil))) (pa_cons (pe_op op_sub (pv 2) pe_int) pa_nil))))))) pa_nil))))
        pss_nil)
      (pss_cons (ps_if (pt_cmpR op_lt (pv 2) pe_int (nomark _))
        (pss_one (ps_ret (pe_lst (pa_cons (pe_tup (pa_cons pe_str (pa_cons (pe_op op_sub (pv 2) pe_int) (pa_cons (pv 4) (pa_cons (pv 5) (pa_cons (pe_ix ix_list (pe_lst (pa_cons pe_str (pa_cons pe_str pa_nil))) (pe_op op_sub (pv 2) pe_int) (fun _ _ => rfl)) (pa_cons (pe_call G_law_kind (hr.mono (by decide)) rfl g_law_kind F_law_kind.kp b_law_kind .nil pass0 (pa_cons (pv 0) (pa_cons (pe_ix ix_list (pe_lst (pa_cons pe_str (pa_cons pe_str pa_nil))) (pe_op op_sub (pv 2) pe_int) (fun _ _ => rfl)) pa_nil))) pa_nil))))))) pa_nil))))
        pss_nil)
      (pss_cons (ps_if (pt_cmpR op_lt (pv 2) pe_int (nomark _))
        (pss_one (ps_ret (pe_call G_law_calls (hr.mono (by decide)) rfl g_law_calls F_law_calls.kp b_law_calls .nil pass0 (pa_cons (pv 0) (pa_cons (pv 4) (pa_cons (pv 5) pa_nil))))))
        pss_nil)
      (pss_cons (ps_if (pt_cmpR op_eq (pv 2) pe_int (nomark _))
        (pss_one (ps_ret (pe_lst (pa_cons (pe_tup (pa_cons pe_str (pa_cons (pv 3) (pa_cons (pv 4) (pa_cons (pv 6) pa_nil))))) pa_nil))))
        pss_nil)
      (pss_one (ps_ret (pe_ifExp (pt_cmpR op_eq (pv 2) pe_int (nomark _)) (pe_call G_law_arrays (hr.mono (by decide)) rfl g_law_arrays F_law_arrays.kp b_law_arrays .nil pass0 (pa_cons (pv 0) (pa_cons (pv 4) pa_nil))) (pe_call G_law_jump (hr.mono (by decide)) rfl g_law_jump F_law_jump.kp b_law_jump .nil pass0 (pa_cons (pv 0) (pa_cons (pv 4) (pa_cons (pv 6) pa_nil))))))))))))))))), ?_⟩
    refine ⟨_, rfl, p, _, rfl, hs, by decide, by decide, fun way H1 w0 w1 l1 => ?_⟩
    refine ⟨_, rfl, p, _, rfl, l1.sc, by decide, by decide, fun pl H2 p0 p1 l2 => ⟨_, _, rfl, rfl, ?_⟩⟩
    obtain ⟨q, hq, hq1, hq3⟩ : ∃ q : Nat, 1 + pl = (q : Int) ∧ 1 ≤ q ∧ q ≤ 3 := ⟨(1 + pl).toNat, by omega, by omega, by omega⟩
    have hDq : ∀ H : Hp, Dq H (V.int (1 + pl)) (iD q) := fun H => by rw [hq]; exact .int _
    have l12 := l1.trans l2
    refine ⟨_, rfl, p, _, rfl, l12.sc, by decide, by decide, fun ot H3 o0 o1 l3 => ⟨_, _, _, rfl, ?_⟩⟩
    obtain ⟨n0, hn0, hn0m⟩ := ixS [z, "a", "b", "c"] o0 (by simpa using o1)
    obtain ⟨ot, rfl⟩ := Int.eq_ofNat_of_zero_le o0
    have ho : ot < 5 := by omega
    have lA := l12.trans l3
    have hn0S : n0 ∈ nmS := by
      rcases List.mem_cons.mp hn0m with rfl | h
      · exact hz
      · exact abcS _ h
    refine ⟨_, rfl, le_line (by simp), fun b hb => ⟨_, rfl, b, _, _, _, rfl, rfl, SqL.of upd_same, hn0, ?_⟩⟩
    have lB := lA.then (Evl.Ex.new (o := .lst [.str z, .str "a", .str "b", .str "c"]) hb)
    refine ⟨fun σ' H' => ∃ nm : Str, σ' = [some (.ref p), some (.str z), some (.int way), some (.int (1 + pl)), some (.int ot), some (.str nm), none] ∧ nm ∈ nmS ∧ Lx p H H', ?_, ?_⟩
    · refine ⟨_, rfl, p, _, rfl, lB.sc, by decide, by decide, fun d H5 _ _ l5 => ⟨_, _, rfl, rfl, _, rfl, ?_⟩⟩
      have lC := lB.trans l5
      refine ite2 (fun _ => ⟨_, rfl, n0, rfl, hn0S, lC⟩) (fun _ => ⟨_, rfl, le_line (by simp), fun b2 hb2 => ?_⟩)
      have e2 := Evl.Ex.new (o := .lst [.str "a", .str "b", .str "c", .str "d", .str "top"]) hb2
      refine ⟨p, b2, _, rfl, lC.sc.ex e2, lC.sc.ne hb2, upd_same, by simp, by simp, fun x H6 hx l6 => ?_⟩
      obtain ⟨nm, rfl, hnm⟩ := pickS (zs := ["a", "b", "c", "d", "top"]) (S := nmS) (by decide +kernel) hx
      exact ⟨nm, rfl, hnm, (lC.then e2).trans l6⟩
    rintro σ' H4 ⟨nm, rfl, hnm, lD⟩
    clear lB lA l12 l1 l2 l3 hb hn0 hn0S hn0m
    obtain ⟨own, hown, hownm⟩ : ∃ y, L2.atI ((["", "a", "b", "c"] : List Str).map V.str) (1 + pl) = some (.str y) ∧ y ∈ (["a", "b", "c"] : List Str) := by
      rw [hq]
      have h3 : q = 1 ∨ q = 2 ∨ q = 3 := by omega
      clear hq hDq
      rcases h3 with rfl | rfl | rfl
      · exact ⟨"a", rfl, by decide +kernel⟩
      · exact ⟨"b", rfl, by decide +kernel⟩
      · exact ⟨"c", rfl, by decide +kernel⟩
    have howS := abcS own hownm
    refine ⟨le_line (by simp), fun b hb => ⟨_, rfl, b, _, _, _, rfl, rfl, SqL.of upd_same, hown, ?_⟩⟩
    have lE := lD.then (Evl.Ex.new (o := .lst [.str "", .str "a", .str "b", .str "c"]) hb)
    generalize upd H4 b (.lst [.str "", .str "a", .str "b", .str "c"]) = H5 at lE
    clear hb hown lD
    -- new
    refine ⟨_, rfl, _, _, rfl, rfl, _, rfl, ite2 (fun h4 => ?_) (fun h4 => ?_)⟩
    · refine ⟨_, rfl, _, rfl, p, _, rfl, lE.sc, by decide, by decide, fun d H7 _ _ l7 => ⟨_, _, rfl, rfl, _, rfl, ?_⟩⟩
      have l := lE.trans l7
      have fin : ∀ c ∈ nmS, PreP (.tuple [.str "new", iD q, .str c]) := fun c hc => preM (cs := [114, 99]) (by decide +kernel) (.cons (.r q (by omega)) (.cons (.c c hc) .nil)) (by decide +kernel)
      exact ite2 (fun _ => ⟨_, rfl, le_line (by simp), fun t ht => ⟨le_line (by simp), fun b hb => hQ _ _ _ _ (pre1 l (.cons (.str _) (.cons (hDq _) (.cons (.str _) .nil))) ht hb (fin own howS))⟩⟩)
        (fun _ => ⟨le_line (by simp), fun t ht => ⟨le_line (by simp), fun b hb => hQ _ _ _ _ (pre1 l (.cons (.str _) (.cons (hDq _) (.cons (.str _) .nil))) ht hb (fin "d" (by decide +kernel)))⟩⟩)
    have h4 := nlt_dec h4
    -- tell
    refine ⟨_, rfl, rfl, _, rfl, ite2 (fun h5 => ?_) (fun h5 => ?_)⟩
    · exact ⟨_, rfl, le_line (by simp), fun t ht => ⟨le_line (by simp), fun b hb => hQ _ _ _ _ (pre1 lE (.cons (.str _) (.cons (.int _) .nil)) ht hb (preM (ds := [iD ot]) (cs := [114]) (by decide +kernel) (.cons (.r ot ho) .nil) (by decide +kernel)))⟩⟩
    have h5 := neq_dec h5
    -- put
    refine ⟨_, rfl, _, _, rfl, rfl, _, rfl, ite2 (fun h7 => ?_) (fun h7 => ?_)⟩
    · have h7 := lt_dec h7
      obtain ⟨fg, hfg, hfgm⟩ := ixS ["f", "g"] (d := way - 5) (by omega) (by simp; omega)
      obtain ⟨ab, hab, habm⟩ := ixS ["a", "b"] (d := way - 5) (by omega) (by simp; omega)
      obtain ⟨k, hk, hk5⟩ : ∃ k : Nat, way - 4 = (k : Int) ∧ k < 5 := ⟨(way - 4).toNat, by omega, by omega⟩
      refine ⟨_, rfl, _, rfl, le_line (by simp), fun b1 hb1 => ⟨_, rfl, _, _, rfl, rfl, b1, _, _, _, rfl, rfl, SqL.of upd_same, hfg, ?_⟩⟩
      have e1 := Evl.Ex.new (o := .lst [.str "f", .str "g"]) hb1
      refine ⟨_, rfl, le_line (by simp), fun b2 hb2 => ⟨_, rfl, _, _, rfl, rfl, b2, _, _, _, rfl, rfl, SqL.of upd_same, hab, ?_⟩⟩
      have e2 := Evl.Ex.new (o := .lst [.str "a", .str "b"]) hb2
      have lF := (lE.then e1).then e2
      refine ⟨p, ab, rfl, lF.sc, abS ab habm, fun kd H7 hkd l7 => ⟨_, rfl, _, _, rfl, rfl, ?_⟩⟩
      have hDk : ∀ H : Hp, Dq H (V.int (way - 4)) (iD k) := fun H => by rw [hk]; exact .int _
      exact ⟨le_line (by simp), fun t ht => ⟨le_line (by simp), fun b hb => hQ _ _ _ _ (pre1 (lF.trans l7) (.cons (.str _) (.cons (.int _) (.cons (.str _) (.cons (.str _) (.cons (.str _) (.cons (hDk _) .nil)))))) ht hb
        (preM (ds := [iD ot, .str nm, .str fg, .str kd, iD k]) (cs := [114, 99, 102, 116, 114]) (by decide +kernel) (.cons (.r ot ho) (.cons (.c nm hnm) (.cons (.f fg (fgS fg hfgm)) (.cons (.t kd hkd) (.cons (.r k hk5) .nil))))) (by decide +kernel)))⟩⟩
    have h7 := nlt_dec h7
    -- get
    refine ⟨_, rfl, _, _, rfl, rfl, _, rfl, ite2 (fun h9 => ?_) (fun h9 => ?_)⟩
    · have h9 := lt_dec h9
      obtain ⟨fg, hfg, hfgm⟩ := ixS ["f", "g"] (d := way - 7) (by omega) (by simp; omega)
      obtain ⟨ab, hab, habm⟩ := ixS ["a", "b"] (d := way - 7) (by omega) (by simp; omega)
      obtain ⟨k, hk, hk5⟩ : ∃ k : Nat, way - 6 = (k : Int) ∧ k < 5 := ⟨(way - 6).toNat, by omega, by omega⟩
      refine ⟨_, rfl, _, _, rfl, rfl, _, rfl, _, rfl, le_line (by simp), fun b1 hb1 => ⟨_, rfl, _, _, rfl, rfl, b1, _, _, _, rfl, rfl, SqL.of upd_same, hfg, ?_⟩⟩
      have e1 := Evl.Ex.new (o := .lst [.str "f", .str "g"]) hb1
      refine ⟨_, rfl, le_line (by simp), fun b2 hb2 => ⟨_, rfl, _, _, rfl, rfl, b2, _, _, _, rfl, rfl, SqL.of upd_same, hab, ?_⟩⟩
      have e2 := Evl.Ex.new (o := .lst [.str "a", .str "b"]) hb2
      have lF := (lE.then e1).then e2
      refine ⟨p, ab, rfl, lF.sc, abS ab habm, fun kd H7 hkd l7 => ?_⟩
      have hDk : ∀ H : Hp, Dq H (V.int (way - 6)) (iD k) := fun H => by rw [hk]; exact .int _
      exact ⟨le_line (by simp), fun t ht => ⟨le_line (by simp), fun b hb => hQ _ _ _ _ (pre1 (lF.trans l7) (.cons (.str _) (.cons (hDk _) (.cons (.int _) (.cons (.str _) (.cons (.str _) (.cons (.str _) .nil)))))) ht hb
        (preM (ds := [iD k, iD ot, .str nm, .str fg, .str kd]) (cs := [114, 114, 99, 102, 116]) (by decide +kernel) (.cons (.r k hk5) (.cons (.r ot ho) (.cons (.c nm hnm) (.cons (.f fg (fgS fg hfgm)) (.cons (.t kd hkd) .nil))))) (by decide +kernel)))⟩⟩
    have h9 := nlt_dec h9
    -- calls
    refine ⟨_, rfl, _, _, rfl, rfl, _, rfl, ite2 (fun _ => ?_) (fun _ => ?_)⟩
    · exact ⟨_, rfl, _, rfl, _, rfl, p, ⟨ot, nm, rfl, ho, hnm⟩, lE.sc, fun L xs ds H' pr => hQ L xs ds H' (prT lE pr)⟩
    -- cast
    refine ⟨_, rfl, rfl, _, rfl, ite2 (fun _ => ?_) (fun _ => ?_)⟩
    · exact ⟨_, rfl, _, rfl, _, rfl, le_line (by simp), fun t ht => ⟨le_line (by simp), fun b hb => hQ _ _ _ _ (pre1 lE (.cons (.str _) (.cons (hDq _) (.cons (.int _) (.cons (.str _) .nil)))) ht hb
        (preM (ds := [iD q, iD ot, .str own]) (cs := [114, 114, 99]) (by decide +kernel) (.cons (.r q (by omega)) (.cons (.r ot ho) (.cons (.c own howS) .nil))) (by decide +kernel)))⟩⟩
    refine ⟨_, rfl, rfl, _, rfl, ite2 (fun _ => ?_) (fun _ => ?_)⟩
    · exact ⟨_, rfl, _, rfl, p, ⟨ot, rfl, ho⟩, lE.sc, fun L xs ds H' pr => hQ L xs ds H' (prT lE pr)⟩
    · exact ⟨_, rfl, _, rfl, _, rfl, p, ⟨ot, own, rfl, ho, howS⟩, lE.sc, fun L xs ds H' pr => hQ L xs ds H' (prT lE pr)⟩
end
end K50

set_option Elab.async false
set_option linter.all false
set_option maxRecDepth 100000
set_option maxHeartbeats 0
namespace K50
open PySem PySem.Spec PyProof.Rows L2 EX2
theorem mem_of_get {α : Type} {l : List α} {R : α → Prop} (h : ∀ (i : Nat) d, l[i]? = some d → R d) : ∀ d ∈ l, R d := fun d hd => by
  obtain ⟨i, hi⟩ := List.mem_iff_getElem?.mp hd
  exact h i d hi
theorem it_mono {n m c : Nat} {d : PyData} (hm : n ≤ m) (h : It n c d) : It m c d := by
  cases h with
  | r i h => exact .r i h
  | n i h => exact .n i h
  | j i h => exact .j i (by omega)
  | c z h => exact .c z h
  | f z h => exact .f z h
  | t z h => exact .t z h
  | y zs l h => exact .y zs l h
  | x is l h => exact .x is l h
theorem its_mono {n m : Nat} {cs : List Nat} {ds : List PyData} (hm : n ≤ m) (h : Its n cs ds) : Its m cs ds := by
  induction h with
  | nil => exact .nil
  | cons h _ ih => exact .cons (it_mono hm h) ih
theorem inD_mono {n m : Nat} {d : PyData} (hm : n ≤ m) (h : InD n d) : InD m d := by
  obtain ⟨z, fm, ds, rfl, q⟩ := h
  exact ⟨z, fm, ds, rfl, q.lk, its_mono hm q.its, q.eq⟩
theorem it_some {n c : Nat} {d : PyData} (h : It n c d) : d ≠ .none := by cases h <;> exact fun z => nomatch z
theorem atI_lastK {xs : List V} {k : Nat} (h : xs.length = k + 1) : L2.atI xs (-1) = xs[k]? := by
  have e : L2.ixN xs.length (-1) = some k := by
    unfold L2.ixN
    rw [if_neg (by decide), if_pos (by omega)]
    exact congrArg some (by omega)
  unfold L2.atI
  rw [e]
  rfl
theorem mkI {n : Nat} {w : Str} {cs : List Nat} {ds : List PyData} (h : forms.lookup w = some ⟨cs.toArray⟩) (q : Its n cs ds) (e : (!(w == "call" || w == "ask")) = true) : InD n (.tuple (.str w :: ds)) := ⟨w, _, ds, rfl, h, q, by rw [e]; rfl⟩
theorem preV {H : Hp} {x : V} {d : PyData} (h : PreP d) (q : Dq H x d) : ∃ a vs v, x = .ref a ∧ H a = some (.tup vs) ∧ L2.atI vs (-1) = some v ∧ ((v ≠ .non ∧ InD 1 d) ∨ (v = .non ∧ cutV vs none (some (-1)) ≠ [] ∧ (cutV vs none (some (-1))).length ≤ 5 ∧
    ¬ (HT.sIx vs.length 0 none = 0 ∧ HT.sIx vs.length vs.length (some (-1)) = vs.length) ∧ ∀ t n : Nat, t < n → ∃ es, InD n (.tuple es) ∧ noLs es = true ∧ DqAll H (cutV vs none (some (-1)) ++ [.int t]) es)) := by
  cases h with
  | i d h =>
    obtain ⟨z, fm, ds, rfl, hp⟩ := h
    obtain ⟨a, vs, rfl, ha, hall⟩ := q.tupI
    have hl := hall.length
    have hfl : 1 ≤ fm.length := (forms_word _ hp.mem).2.2.1
    have hdl := hp.len
    obtain ⟨k, hk⟩ : ∃ k, vs.length = k + 1 := ⟨vs.length - 1, by rw [hl, List.length_cons]; omega⟩
    have hk2 : k < vs.length := by omega
    obtain ⟨dk, hdk, hq⟩ := hall.get (List.getElem?_eq_getElem hk2)
    refine ⟨a, vs, vs[k], rfl, ha, by rw [atI_lastK hk]; exact List.getElem?_eq_getElem hk2, .inl ⟨fun e => ?_, z, fm, ds, rfl, hp⟩⟩
    rw [e] at hq
    cases hq
    rw [List.length_cons] at hl
    obtain ⟨j, rfl⟩ : ∃ j, k = j + 1 := ⟨k - 1, by omega⟩
    rw [List.getElem?_cons_succ] at hdk
    obtain ⟨c, hc⟩ := hp.its.all _ (List.mem_of_getElem? hdk)
    exact it_some hc rfl
  | ifis r z hr hz =>
    obtain ⟨a, vs, rfl, ha, hall⟩ := q.tupI
    cases hall with | cons h1 t => cases t with | cons h2 t => cases t with | cons h3 t => cases t with | cons h4 t =>
    cases t; cases h1; cases h2; cases h3; cases h4
    exact ⟨a, _, _, rfl, ha, rfl, .inr ⟨rfl, (fun e => nomatch e), (by show (3 : Nat) ≤ 5; decide), (fun h => absurd h.2 (by show ¬ (3 : Nat) = 4; decide)), fun t n h => ⟨_, mkI (w := "ifis") (ds := [iD r, .str z, iD t]) (cs := [114, 99, 106]) (by decide +kernel) (.cons (.r r hr) (.cons (.c z hz) (.cons (.j t h) .nil))) (by decide +kernel), rfl, .cons (.str _) (.cons (.int _) (.cons (.str _) (.cons (.int _) .nil)))⟩⟩⟩
  | ifnull r hr =>
    obtain ⟨a, vs, rfl, ha, hall⟩ := q.tupI
    cases hall with | cons h1 t => cases t with | cons h2 t => cases t with | cons h3 t =>
    cases t; cases h1; cases h2; cases h3
    exact ⟨a, _, _, rfl, ha, rfl, .inr ⟨rfl, (fun e => nomatch e), (by show (2 : Nat) ≤ 5; decide), (fun h => absurd h.2 (by show ¬ (2 : Nat) = 3; decide)), fun t n h => ⟨_, mkI (w := "ifnull") (ds := [iD r, iD t]) (cs := [114, 106]) (by decide +kernel) (.cons (.r r hr) (.cons (.j t h) .nil)) (by decide +kernel), rfl, .cons (.str _) (.cons (.int _) (.cons (.int _) .nil))⟩⟩⟩
  | jump =>
    obtain ⟨a, vs, rfl, ha, hall⟩ := q.tupI
    cases hall with | cons h1 t => cases t with | cons h2 t =>
    cases t; cases h1; cases h2
    exact ⟨a, _, _, rfl, ha, rfl, .inr ⟨rfl, (fun e => nomatch e), (by show (1 : Nat) ≤ 5; decide), (fun h => absurd h.2 (by show ¬ (1 : Nat) = 2; decide)), fun t n h => ⟨_, mkI (w := "jump") (ds := [iD t]) (cs := [106]) (by decide +kernel) (.cons (.j t h) .nil) (by decide +kernel), rfl, .cons (.str _) (.cons (.int _) .nil)⟩⟩⟩
  | choose =>
    obtain ⟨a, vs, rfl, ha, hall⟩ := q.tupI
    cases hall with | cons h1 t => cases t with | cons h2 t =>
    cases t; cases h1; cases h2
    exact ⟨a, _, _, rfl, ha, rfl, .inr ⟨rfl, (fun e => nomatch e), (by show (1 : Nat) ≤ 5; decide), (fun h => absurd h.2 (by show ¬ (1 : Nat) = 2; decide)), fun t n h => ⟨_, mkI (w := "choose") (ds := [iD t]) (cs := [106]) (by decide +kernel) (.cons (.j t h) .nil) (by decide +kernel), rfl, .cons (.str _) (.cons (.int _) .nil)⟩⟩⟩
def spCodeL : Sp := fun vs H Q _ => ∃ (p : Addr) (z : Str) (a b : Nat), vs = [.ref p, .str z, .int a, .int b] ∧ z ∈ nmS ∧ a ≤ 1 ∧ b < 5 ∧ Sc p H ∧
  ∀ (L : Addr) (xs : List V) (cd : List PyData) (H' : Hp), Lx p H H' → H L = none → H' L = some (.lst xs) → DzAll p H' xs cd → noLs cd = true → CodP cd → Q (.ref L) H'
section
variable {P : Program} {w : World} {K : PySem.W.Frag} {mg : Str → Option Value} {base : Heap} {f : Addr} {fd : FuncData}
abbrev s_law_code : Stmt := top 54
abbrev n_law_code : List Str := ["_law_source_here", "_law_owner", "_law_params", "_law_back", "_law_code_here", "_law_part", "_law_found", "_law_at", "_law_start", "_law_target"]
theorem sc_law_code : FnScope n_law_code ["_law_source_here", "_law_owner", "_law_params", "_law_back"] (defScope s_law_code) := ⟨rfl, rfl, rfl, by decide +kernel, rfl, by decide +kernel, by decide +kernel⟩
theorem ok_law_code (F : FnP K "_law_code" s_law_code f fd) (D : DD w K mg) : FnOk P w K mg base CX0 6 f fd ["_law_source_here", "_law_owner", "_law_params", "_law_back"] spCodeL := by
  have T := D.t
  obtain ⟨f_law_draw, fd_law_draw, g_law_draw, F_law_draw⟩ := D._law_draw
  have G_law_draw := ok_law_draw (P := P) (base := base) F_law_draw D
  have b_law_draw : Binds K fd_law_draw ["_law_source_here", "_law_amount"] [] := F_law_draw.bindsN fun _ _ _ _ _ _ us hl => match us, hl with | [_, _], _ => rfl
  obtain ⟨f_law_steps, fd_law_steps, g_law_steps, F_law_steps⟩ := D._law_steps
  have G_law_steps := ok_law_steps (P := P) (base := base) F_law_steps D
  have b_law_steps : Binds K fd_law_steps ["_law_source_here", "_law_owner"] [] := F_law_steps.bindsN fun _ _ _ _ _ _ us hl => match us, hl with | [_, _], _ => rfl
  refine F.ok sc_law_code (fun vs H Q E h => ?_) (fun cdv A outer s H vs Q E hr h => ?_)
  · obtain ⟨p, z, a, b, rfl, _⟩ := h
    rfl
  · obtain ⟨p, z, a, b, rfl, hz, ha, hb, hs, hQ⟩ := h
    refine ⟨_, PSs.nox (pss_cons (ps_setLc (i := 4) (own := [("_law_at", 7)]) (g := gName 7) (tt := tYes) rfl sc_law_code.nd rfl rfl (sw_true rfl rfl rfl (by decide +kernel)) (pi_range2 rfl T.rng (pa_cons (pe_op op_add pe_int (pv 2)) (pa_cons pe_int pa_nil))) (blkOk_by (N := n_law_code) (sc := defScope s_law_code) (by decide +kernel)) (fun _ _ _ _ _ => (pg_name (i := 7) sc_law_code.nd rfl (Or.inl rfl))) (fun _ _ _ _ _ => pts_nil) (fun _ _ _ _ _ => (pe_tup (pa_cons pe_str (pa_cons (pv 7) pa_nil)))))
      (pss_cons (ps_for PassesOwn.never rfl (pi_range1 rfl T.rng (pa_cons (pe_op op_add pe_int (pe_call G_law_draw (hr.mono (by decide)) rfl g_law_draw F_law_draw.kp b_law_draw .nil pass0 (pa_cons (pv 0) (pa_cons pe_int pa_nil)))) pa_nil)) (pg_name (i := 5) sc_law_code.nd rfl (Or.inl rfl))
        (pss_one (ps_expr (pe_bm PySem.F.plainAttrs_list PySem.F.slot_list_extend PySem.F.type_list_extend mt_extend (pv 4) (pa_cons (pe_call G_law_steps (hr.mono (by decide)) rfl g_law_steps F_law_steps.kp b_law_steps .nil pass0 (pa_cons (pv 0) (pa_cons (pv 1) pa_nil))) pa_nil)))))
      (pss_cons (ps_expr (pe_bm PySem.F.plainAttrs_list PySem.F.slot_list_extend PySem.F.type_list_extend mt_extend (pv 4) (pa_cons (pe_lst (pa_cons (pe_tup (pa_cons pe_str (pa_cons (pe_call G_law_draw (hr.mono (by decide)) rfl g_law_draw F_law_draw.kp b_law_draw .nil pass0 (pa_cons (pv 0) (pa_cons pe_int pa_nil))) pa_nil))) (pa_cons (pe_tup (pa_cons pe_str (pa_cons (pv 3) pa_nil))) pa_nil))) pa_nil)))
      (pss_cons (ps_set (i := 6) sc_law_code.nd rfl (Or.inl rfl) (pe_lst pa_nil))
      (pss_cons (ps_for PassesOwn.never rfl (pi_range1 rfl T.rng (pa_cons (pe_callB call_len rfl T.len boot_len (pa_cons (pv 4) pa_nil)) pa_nil)) (pg_name (i := 7) sc_law_code.nd rfl (Or.inl rfl))
        (Evl.pss_cut (ps_set (i := 8) sc_law_code.nd rfl (Or.inl rfl) (pe_ifExp (pt_cmpR op_eq (pe_call G_law_draw (hr.mono (by decide)) rfl g_law_draw F_law_draw.kp b_law_draw .nil pass0 (pa_cons (pv 0) (pa_cons pe_int pa_nil))) pe_int (nomark _)) pe_int (pe_callB (call_min2 rfl) rfl T.min boot_min (pa_cons (pe_op op_add (pv 7) pe_int) (pa_cons (pe_op op_sub (pe_callB call_len rfl T.len boot_len (pa_cons (pv 4) pa_nil)) pe_int) pa_nil)))))
        (pss_cons (ps_set (i := 9) sc_law_code.nd rfl (Or.inl rfl) (pe_op op_add (pv 8) (pe_call G_law_draw (hr.mono (by decide)) rfl g_law_draw F_law_draw.kp b_law_draw .nil pass0 (pa_cons (pv 0) (pa_cons (pe_op op_sub (pe_callB call_len rfl T.len boot_len (pa_cons (pv 4) pa_nil)) (pv 8)) pa_nil)))))
        (pss_one (ps_expr (pe_bm PySem.F.plainAttrs_list PySem.F.slot_list_append PySem.F.type_list_append mt_append (pv 6) (pa_cons (pe_ifExp (pt_cmpR op_isN (pe_ix ix_tup (pe_ix ix_list (pv 4) (pv 7) (fun _ _ => rfl)) (pe_un un_neg pe_int) (fun _ _ => rfl)) pe_non (nomark _)) (pe_op op_catT (pe_slice sl_tup (pe_ix ix_list (pv 4) (pv 7) (fun _ _ => rfl)) po_none (po_some (pe_un un_neg pe_int))) (pe_tup (pa_cons (pv 9) pa_nil))) (pe_ix ix_list (pv 4) (pv 7) (fun _ _ => rfl))) pa_nil)))))))
      (pss_one (ps_ret (pv 6)))))))), ?_⟩
    refine ⟨_, rfl, _, _, rfl, rfl, _, _, rfl, ⟨by omega, by omega, by omega, by omega⟩, fun L hL => ?_⟩
    have npL := hs.ne hL
    refine lc_lx walk_range hs hL (fun _ _ => trivial) (fun _ d => PreP d) (by omega) (fun j H2 x H3 y => y.1) ?_ ?_
    · rintro j x H2 hj lx2 ⟨_, rfl⟩ Qt hQt
      obtain ⟨q, hq, hq5⟩ : ∃ q : Nat, 1 + (a : Int) + (j : Int) = (q : Int) ∧ q < 5 := ⟨1 + a + j, by omega, by omega⟩
      have hDq : ∀ H : Hp, Dq H (V.int (1 + (a : Int) + (j : Int))) (iD q) := fun H => by rw [hq]; exact .int _
      refine ⟨rfl, _, rfl, le_line (by simp), fun t ht => hQt _ (.tuple [.str "null", iD q]) _ (.of lx2.sc (Evl.Ex.new ht)) (Dz.tupN lx2.sc ht (.cons (.str _) (.cons (hDq _) .nil))) rfl (preM (ds := [iD q]) (cs := [114]) (by decide +kernel) (.cons (.r q hq5) .nil) (by decide +kernel))⟩
    intro H1 xs1 ds1 lx1 hL1 hds1 hdl1 hno1 hR1
    have hpre1 : ∀ d ∈ ds1, PreP d := mem_of_get (fun i d h => hR1 i d h)
    have hc1 : ds1.length ≤ 4 := by rw [hdl1]; omega
    -- the parts
    refine ⟨_, rfl, p, _, rfl, lx1.sc, by decide, by decide, fun k H2 k0 k1 l2 => ⟨_, _, rfl, rfl, _, rfl, by omega, by omega, ?_⟩⟩
    have l12 := lx1.trans l2
    refine for_it walk_range (fun j σ H' => Lx p H H' ∧ (∃ xs ds, H' L = some (.lst xs) ∧ DzAll p H' xs ds ∧ ds.length ≤ 4 + 2 * j ∧ ∀ d ∈ ds, PreP d) ∧ ∃ v, σ = [some (.ref p), some (.str z), some (.int a), some (.int b), some (.ref L), v, none, none, none, none])
      ⟨l12, ⟨xs1, ds1, l2.at hL1 npL, hds1.lx l2, by omega, hpre1⟩, none, rfl⟩ (fun _ _ _ _ _ => trivial) ?_ ?_
    · rintro j x σ H3 H4 hj ⟨l3, ⟨xs, ds, hL3, hall, hlen, hpre⟩, v, rfl⟩ ⟨rfl, rfl⟩
      refine ⟨_, rfl, .inl ⟨rfl, _, SqL.of hL3⟩, _, rfl, _, rfl, p, ⟨z, rfl, hz⟩, l3.sc, fun L2 xs2 ds2 H5 pr => ?_⟩
      obtain ⟨l5, hn2, hL5, hall5, hlen5, hpre5⟩ := pr
      have hL3' := l5.at hL3 npL
      refine ⟨L, L2, xs, xs2, rfl, rfl, hL3', hL5, le_line (by rw [hall.length, hall5.length]; omega), (l3.trans l5).mut npL hL, ⟨xs ++ xs2, ds ++ ds2, upd_same, ?_, by rw [List.length_append]; omega, fun d hd => (List.mem_append.mp hd).elim (hpre d) (hpre5 d)⟩, _, rfl⟩
      exact DqAll.app (DzAll.mutD hL3' npL (hall.lx l5) (noLs_of fun d hd => preP_noL (hpre d hd))) (DzAll.mutD hL3' npL hall5 (noLs_of fun d hd => preP_noL (hpre5 d hd)))
    rintro σ H3 ⟨l3, ⟨xs, ds, hL3, hall, hlen, hpre⟩, v, rfl⟩
    -- the last two
    refine ⟨_, rfl, .inl ⟨rfl, _, SqL.of hL3⟩, _, rfl, p, _, rfl, l3.sc, by decide, by decide, fun q H4 q0 q1 l4 => ⟨le_line (by simp), fun t1 ht1 => ⟨_, rfl, le_line (by simp), fun t2 ht2 => ⟨le_line (by simp), fun b2 hb2 => ?_⟩⟩⟩⟩
    obtain ⟨q, rfl⟩ := Int.eq_ofNat_of_zero_le q0
    have lA := l3.trans l4
    have f1 := Evl.Ex.new (o := .tup [.str "tell", .int q]) ht1
    have lB := lA.then f1
    have f2 := Evl.Ex.new (o := .tup [.str "return", .int b]) ht2
    have lC := lB.then f2
    have f3 := Evl.Ex.new (o := .lst [.ref t1, .ref t2]) hb2
    have lD := lC.then f3
    have z1 := Dz.tupN lA.sc ht1 (xs := [.str "tell", .int q]) (ds := [.str "tell", iD q]) (.cons (.str _) (.cons (.int _) .nil))
    have z2 := Dz.tupN lB.sc ht2 (xs := [.str "return", .int b]) (ds := [.str "return", iD b]) (.cons (.str _) (.cons (.int _) .nil))
    have lx4 : Lx p H3 (upd (upd (upd H4 t1 (.tup [.str "tell", .int q])) t2 (.tup [.str "return", .int b])) b2 (.lst [.ref t1, .ref t2])) := ((l4.then f1).then f2).then f3
    have zz : DzAll p (upd (upd (upd H4 t1 (.tup [.str "tell", .int q])) t2 (.tup [.str "return", .int b])) b2 (.lst [.ref t1, .ref t2])) [.ref t1, .ref t2] [.tuple [.str "tell", iD q], .tuple [.str "return", iD b]] :=
      DzAll.lx (.cons (z1.lx (.of lB.sc f2)) (.cons z2 .nil)) (.of lC.sc f3)
    have hall4 := hall.lx lx4
    have hL4 := lx4.at hL3 npL
    have hb24 := upd_same (H := upd (upd H4 t1 (.tup [.str "tell", .int q])) t2 (.tup [.str "return", .int b])) (a := b2) (o := .lst [.ref t1, .ref t2])
    generalize upd (upd (upd H4 t1 (.tup [.str "tell", .int q])) t2 (.tup [.str "return", .int b])) b2 (.lst [.ref t1, .ref t2]) = H5 at lD zz hall4 hL4 hb24 lx4
    have hpret : ∀ d ∈ [PyData.tuple [.str "tell", iD q], .tuple [.str "return", iD b]], PreP d := fun d hd => by
      simp only [List.mem_cons, List.not_mem_nil, or_false] at hd
      rcases hd with rfl | rfl
      · exact preM (ds := [iD q]) (cs := [114]) (by decide +kernel) (.cons (.r q (by omega)) .nil) (by decide +kernel)
      · exact preM (ds := [iD b]) (cs := [114]) (by decide +kernel) (.cons (.r b hb) .nil) (by decide +kernel)
    refine ⟨L, b2, xs, _, rfl, rfl, hL4, hb24, le_line (by rw [hall.length]; simp; omega), ?_⟩
    have hall6 : DzAll p (upd H5 L (.lst (xs ++ [.ref t1, .ref t2]))) (xs ++ [.ref t1, .ref t2]) (ds ++ [PyData.tuple [.str "tell", iD q], .tuple [.str "return", iD b]]) :=
      DqAll.app (DzAll.mutD hL4 npL hall4 (noLs_of fun d hd => preP_noL (hpre d hd))) (DzAll.mutD hL4 npL zz (noLs_of fun d hd => preP_noL (hpret d hd)))
    have hpre6 : ∀ d ∈ ds ++ [PyData.tuple [.str "tell", iD q], .tuple [.str "return", iD b]], PreP d := fun d hd => (List.mem_append.mp hd).elim (hpre d) (hpret d)
    have lE : Lx p H (upd H5 L (.lst (xs ++ [.ref t1, .ref t2]))) := lD.mut npL hL
    have hL6 := upd_same (H := H5) (a := L) (o := .lst (xs ++ [.ref t1, .ref t2]))
    have hN20 : (ds ++ [PyData.tuple [.str "tell", iD q], .tuple [.str "return", iD b]]).length ≤ 20 := by
      rw [List.length_append]
      have : k < 6 := k1
      simp
      omega
    have hN2 : 2 ≤ (ds ++ [PyData.tuple [.str "tell", iD q], .tuple [.str "return", iD b]]).length := by rw [List.length_append]; simp
    generalize upd H5 L (.lst (xs ++ [.ref t1, .ref t2])) = H6 at hall6 lE hL6
    generalize xs ++ [.ref t1, .ref t2] = ys at hall6 hL6
    generalize ds ++ [PyData.tuple [.str "tell", iD q], .tuple [.str "return", iD b]] = es at hall6 hpre6 hN20 hN2
    clear hL3 hall hL4 hall4 zz z1 z2 hb24 hpre hpret hpre1 hds1 lx4 hlen hc1 hR1
    -- the targets
    have hyl : ys.length = es.length := hall6.length
    refine ⟨Nat.zero_le _, fun M hM => ?_⟩
    have eM := Evl.Ex.new (o := .lst []) hM
    have npM := lE.sc.ne hM
    have nLM : L ≠ M := fun e => by rw [e, hM] at hL6; cases hL6
    have hHM := lx_none lE hM
    refine ⟨_, rfl, _, _, rfl, .inl ⟨_, SqL.of (eM _ _ hL6), rfl⟩, _, rfl, by omega, by omega, ?_⟩
    refine for_it walk_range (fun j σ H' => Lx p H H' ∧ H' L = some (.lst ys) ∧ DzAll p H' ys es ∧ (∃ zs cs, H' M = some (.lst zs) ∧ DzAll p H' zs cs ∧ cs.length = j ∧ noLs cs = true ∧ ∀ d ∈ cs, InD es.length d) ∧ ∃ v7 v8 v9, σ = [some (.ref p), some (.str z), some (.int a), some (.int b), some (.ref L), v, some (.ref M), v7, v8, v9])
      ⟨lE.then eM, eM _ _ hL6, hall6.lx (.of lE.sc eM), ⟨[], [], upd_same, .nil, rfl, rfl, fun d h => nomatch h⟩, none, none, none, rfl⟩ (fun _ _ _ _ _ => trivial) ?_ ?_
    · rintro j x σ H7 H8 hj ⟨l7, hL7, hall7, ⟨zs, cs, hM7, hz7, hcl, hno, hin⟩, v7, v8, v9, rfl⟩ ⟨rfl, rfl⟩
      have hjy : j < ys.length := by
        have := hj
        simp at this
        omega
      refine ⟨fun σ' H' => ∃ st : Int, σ' = [some (.ref p), some (.str z), some (.int a), some (.int b), some (.ref L), v, some (.ref M), some (.int (0 + (j : Int))), some (.int st), v9] ∧ 0 ≤ st ∧ st < es.length ∧ Lx p H8 H', ?_, ?_⟩
      · refine ⟨_, rfl, p, _, rfl, l7.sc, by decide, by decide, fun d H9 _ _ l9 => ⟨rfl, _, rfl, ?_⟩⟩
        refine ite2 (fun _ => ⟨0, rfl, by omega, by omega, l9⟩) (fun _ => ?_)
        refine ⟨_, rfl, _, _, rfl, rfl, _, rfl, _, _, rfl, .inl ⟨_, SqL.of (l9.at hL7 npL), rfl⟩, _, _, rfl, rfl, _, _, rfl, _, rfl, ?_, ?_, l9⟩
        · split <;> omega
        · split <;> omega
      rintro σ' H9 ⟨st, rfl, st0, st1, l9⟩
      have hL9 := l9.at hL7 npL
      refine ⟨_, rfl, _, rfl, _, rfl, _, _, rfl, .inl ⟨_, SqL.of hL9, rfl⟩, _, rfl, _, _, rfl, rfl, p, _, rfl, l9.sc, by omega, by omega, fun d H10 d0 d1 l10 => ⟨_, _, rfl, rfl, ?_⟩⟩
      have lx := l9.trans l10
      obtain ⟨t, ht, htn⟩ : ∃ t : Nat, st + d = (t : Int) ∧ t < es.length := ⟨(st + d).toNat, by omega, by omega⟩
      have hL10 := l10.at hL9 npL
      have hM10 := lx.at hM7 npM
      have hall10 := hall7.lx lx
      have hz10 := hz7.lx lx
      obtain ⟨dj, hdj, hxj⟩ := hall10.get (List.getElem?_eq_getElem hjy)
      obtain ⟨ta, vs, lv, hxa, hta, hlast, hcase⟩ := preV (hpre6 dj (List.mem_of_getElem? hdj)) hxj
      have hta' : H10 ta = some (.tup vs) := by
        have nta := rm_ne_of hta
        rw [rm_ne nta] at hta
        exact hta
      have hj0 : (0 : Int) + (j : Int) = (j : Int) := by omega
      have hat : L2.atI ys (0 + (j : Int)) = some (.ref ta) := by rw [hj0]; exact atI_nat (by rw [List.getElem?_eq_getElem hjy, hxa])
      have hsm : zs.length < sizeLine := Nat.lt_of_lt_of_le (show zs.length < 1000 by rw [hz7.length]; omega) (le_line (Nat.le_refl _))
      refine ⟨_, rfl, .inl ⟨rfl, _, SqL.of hM10⟩, ?_⟩
      refine ⟨_, rfl, _, rfl, L, ys, _, _, rfl, rfl, SqL.of hL10, hat, _, rfl, ta, vs, _, _, rfl, rfl, SqT.of hta', hlast, rfl, _, rfl, ?_⟩
      rcases hcase with ⟨hlv, hD⟩ | ⟨rfl, hc0, hc5, hcw, hfix⟩
      · refine ifF (decide_eq_false hlv) ?_
        refine ⟨_, rfl, _, rfl, L, ys, _, _, rfl, rfl, SqL.of hL10, hat, M, zs, _, rfl, rfl, hM10, hsm, ?_⟩
        refine ⟨(l7.trans lx).mut npM hHM, by rw [upd_ne nLM]; exact hL10, DzAll.mutD hM10 npM hall10 (noLs_of fun d hd => preP_noL (hpre6 d hd)), ⟨zs ++ [_], cs ++ [dj], upd_same, ?_, by simp [hcl], noLs_app hno (by have := preP_noL (hpre6 dj (List.mem_of_getElem? hdj)); simp [noLs, this]), fun d hd => ?_⟩, _, _, _, rfl⟩
        · exact DqAll.app (DzAll.mutD hM10 npM hz10 hno) (DzAll.mutD hM10 npM (.cons (by rw [← hxa]; exact hxj) .nil) (by have := preP_noL (hpre6 dj (List.mem_of_getElem? hdj)); simp [noLs, this]))
        · rcases List.mem_append.mp hd with h | h
          · exact hin d h
          · rw [List.mem_singleton.mp h]; exact inD_mono (by omega) hD
      · refine ifT rfl ?_
        obtain ⟨fs, hfD, hfn, hfq⟩ := hfix t es.length htn
        refine ⟨_, rfl, _, rfl, L, ys, _, _, rfl, rfl, SqL.of hL10, hat, _, rfl, _, rfl, ta, vs, rfl, SqT.of hta', hcw, fun q hq => ⟨_, rfl, le_line (by simp), fun u hu => ?_⟩⟩
        have l10' : Lx p H H10 := l7.trans lx
        have g1 := Evl.Ex.new (o := .tup (cutV vs none (some (-1)))) hq
        have lq := Lx.of l10'.sc g1
        have g2 := Evl.Ex.new (o := .tup [.int (st + d)]) hu
        have lu := lq.then g2
        refine ⟨q, u, _, _, rfl, rfl, SqT.of (g2 _ _ upd_same), SqT.of upd_same, hc0, le_line (by simp; omega), (fun h => nomatch h), fun _ r hr => ?_⟩
        have g3 := Evl.Ex.new (o := .tup (cutV vs none (some (-1)) ++ [.int (st + d)])) hr
        have l3 : Lx p H10 _ := lu.then g3
        have hM11 := l3.at hM10 npM
        have hfq' : DzAll p H10 (cutV vs none (some (-1)) ++ [.int (st + d)]) fs := by rw [ht]; exact hfq
        have hzr := Dz.tupN lu.sc hr (DzAll.lx hfq' lu)
        refine ⟨M, zs, _, rfl, rfl, hM11, hsm, ?_⟩
        have hnn : noLs [PyData.tuple fs] = true := by simp [noLs, noL, hfn]
        refine ⟨(l10'.trans l3).mut npM hHM, by rw [upd_ne nLM]; exact l3.at hL10 npL, DzAll.mutD hM11 npM (hall10.lx l3) (noLs_of fun d hd => preP_noL (hpre6 d hd)), ⟨zs ++ [_], cs ++ [.tuple fs], upd_same, ?_, by simp [hcl], noLs_app hno hnn, fun d hd => ?_⟩, _, _, _, rfl⟩
        · exact DqAll.app (DzAll.mutD hM11 npM (hz10.lx l3) hno) (DzAll.mutD hM11 npM (.cons hzr .nil) hnn)
        · rcases List.mem_append.mp hd with h | h
          · exact hin d h
          · rw [List.mem_singleton.mp h]; exact hfD
    · rintro σ H7 ⟨l7, hL7, hall7, ⟨zs, cs, hM7, hz7, hcl, hno, hin⟩, v7, v8, v9, rfl⟩
      have hcl' : cs.length = es.length := by rw [hcl]; simp; omega
      exact ⟨_, rfl, hQ M zs cs H7 l7 hHM hM7 hz7 hno ⟨by omega, by omega, fun d hd => by rw [hcl']; exact hin d hd⟩⟩
end
end K50

set_option Elab.async false
set_option linter.all false
set_option maxRecDepth 100000
set_option maxHeartbeats 0
namespace EX2
open PySem PySem.Spec PyProof.Rows L2
section
variable {K : PySem.W.Frag} {H : Hp}
mutual
/-- data without dicts, for == -/
theorem dp_of : ∀ {x : V} {d : PyData}, Dq H x d → d.canLay0 = true → Dp K H x d
  | _, _, .non, _ => .non
  | _, _, .bl b, _ => .bl b
  | _, _, .int i, _ => .int i
  | _, _, .str x, _ => .str x
  | _, _, .lst q h, n => .lst (SqL.of q) (dpAll_of h n)
  | _, _, .tup q h, n => .tup (SqT.of q) (dpAll_of h n)
  | _, _, .dk q h, n => by cases n
theorem dpAll_of : ∀ {xs : List V} {ds : List PyData}, DqAll H xs ds → PyData.canLayAll0 ds = true → DpAll K H xs ds
  | _, _, .nil, _ => .nil
  | _, _, .cons h t, n => by
    simp only [PyData.canLayAll0, Bool.and_eq_true] at n
    exact .cons (dp_of h n.1) (dpAll_of t n.2)
end
end
/-- instances of the class are known to isinstance -/
structure InsF (K : PySem.W.Frag) (C : Addr) : Prop where
  ha : PySem.W.findIn K (.ref C) "__class__" = some (some (.builtin "object.__class__"))
  hn : PySem.W.specialIn K (.builtin "object.__class__") "__get__" = some (some (.builtin "getset_descriptor.__get__"))
  ht : PySem.W.takesIn K (.builtin "object.__class__") = some true
  hm : PySem.W.mroIn K C (.type "object") = some true
  kl : PySem.W.kitOne K (.type "list") (.ref C) = some false
theorem InsF.kc {K : PySem.W.Frag} {C : Addr} (_ : InsF K C) : PySem.W.kitOne K (.ref C) (.ref C) = some true := by
  unfold PySem.W.kitOne
  rw [if_pos (by simp)]
end EX2
namespace K50
open PySem PySem.Spec PyProof.Rows L2 EX2
/-- a method, its parts as data -/
def MethD (C : Addr) (H : Hp) (m : V) (d : PyData) : Prop := ∃ (x dx : Addr) (n p r z c : V) (ds : List PyData), m = .ref x ∧ H x = some (.ins C dx (mfields n p r z c)) ∧ DqAll H [n, p, r, z, c] ds ∧ d = .tuple ds
theorem MethD.ext {C : Addr} {H H' : Hp} {m : V} {d : PyData} (h : MethD C H m d) (e : Evl.Ex H H') : MethD C H' m d := by
  obtain ⟨x, dx, n, p, r, z, c, ds, h1, h2, h3, h4⟩ := h
  exact ⟨x, dx, n, p, r, z, c, ds, h1, e _ _ h2, h3.ext e, h4⟩
def spParts (C : Addr) : Sp := fun vs H Q _ => ∃ (a dx : Addr) (n p r z c : V), vs = [.ref a] ∧ H a = some (.ins C dx (mfields n p r z c)) ∧ ∀ t, H t = none → Q (.ref t) (upd H t (.tup [n, p, r, z, c]))
def spEqM (C : Addr) : Sp := fun vs H Q _ => ∃ (x y : V) (d : PyData), vs = [x, y] ∧ MethD C H x d ∧ SeqAt.shaped d = true ∧
  ((∃ e, MethD C H y e ∧ SeqAt.shaped e = true ∧ ∀ H', Evl.Ex H H' → Q (.bl (PyData.eqv d e)) H') ∨ (∃ b xs, y = .ref b ∧ H b = some (.lst xs) ∧ ∀ H', Evl.Ex H H' → Q (.bl false) H'))
section
variable {P : Program} {w : World} {K : PySem.W.Frag} {mg : Str → Option Value} {base : Heap} {f : Addr} {fd : FuncData}
abbrev nParts : List Str := ["self"]
theorem scParts : FnScope nParts ["self"] (defScope sParts) := ⟨rfl, rfl, rfl, by decide +kernel, rfl, by decide +kernel, by decide +kernel⟩
theorem ok_parts (F : FunD K "parts" "Method.parts" (defArgs sParts) (defBody sParts) (defScope sParts) [] [] f fd) (M : MethF K mg) : FnOk P w K mg base CX0 1 f fd ["self"] (spParts (He.ga K "Method")) := by
  refine F.ok scParts (fun vs H Q E h => ?_) (fun cdv A outer s H vs Q E hr h => ?_)
  · obtain ⟨a, dx, n, p, r, z, c, rfl, _⟩ := h
    rfl
  · obtain ⟨a, dx, n, p, r, z, c, rfl, ha, hQ⟩ := h
    refine ⟨_, PSs.nox (pss_one (ps_ret (pe_tup (pa_cons (pe_fld (pv 0) rfl) (pa_cons (pe_fld (pv 0) rfl) (pa_cons (pe_fld (pv 0) rfl) (pa_cons (pe_fld (pv 0) rfl) (pa_cons (pe_fld (pv 0) rfl) pa_nil)))))))), ?_⟩
    refine ⟨_, rfl, a, _, dx, _, _, rfl, ha, M.cl, M.n1, rfl, _, rfl, a, _, dx, _, _, rfl, ha, M.cl, M.n2, rfl, _, rfl, a, _, dx, _, _, rfl, ha, M.cl, M.n3, rfl, _, rfl, a, _, dx, _, _, rfl, ha, M.cl, M.n4, rfl, _, rfl, a, _, dx, _, _, rfl, ha, M.cl, M.n5, rfl, le_line (by simp), fun t ht => hQ t ht⟩
abbrev nEq : List Str := ["self", "other"]
theorem scEq : FnScope nEq ["self", "other"] (defScope sEq) := ⟨rfl, rfl, rfl, by decide +kernel, rfl, by decide +kernel, by decide +kernel⟩
theorem ok_eqM (F : FunD K "__eq__" "Method.__eq__" (defArgs sEq) (defBody sEq) (defScope sEq) [] [] f fd) (D : Defs w K mg) (M : MethF K mg) (IF : InsF K (He.ga K "Method")) : FnOk P w K mg base CX0 2 f fd ["self", "other"] (spEqM (He.ga K "Method")) := by
  have T := D.t
  obtain ⟨fdP, FP⟩ := M.parts
  have GP : FnOk P w K mg base CX0 1 _ fdP ["self"] (spParts (He.ga K "Method")) := ok_parts FP M
  have bP : Binds K fdP ["self"] [] := FunD.bindsN FP fun _ _ _ _ _ _ us hl => match us, hl with | [_], _ => rfl
  refine F.ok scEq (fun vs H Q E h => ?_) (fun cdv A outer s H vs Q E hr h => ?_)
  · obtain ⟨x, y, d, rfl, _⟩ := h
    rfl
  · obtain ⟨x, y, d, rfl, hx, sd, h⟩ := h
    refine ⟨_, PSs.nox (pss_one (ps_ret (pe_and (pe_callB call_isi rfl T.isi boot_isi (pa_cons (pv 1) (pa_cons (pe_glob rfl M.hm (v := .ref (He.ga K "Method")) rfl) pa_nil))) (pe_one (pe_cmpR (op_eqD hr.units) (pe_meth0 (pv 0) M.cl M.pm GP hr bP .nil pass0) (pe_meth0 (pv 1) M.cl M.pm GP hr bP .nil pass0) (nomark _)))))), ?_⟩
    obtain ⟨xa, dx, n, p, r, z, c, ds, rfl, hxa, hds, rfl⟩ := hx
    rcases h with ⟨e, ⟨ya, dy, n', p', r', z', c', es, rfl, hya, hes, rfl⟩, se, hQ⟩ | ⟨b, xs, rfl, hb, hQ⟩
    · refine ⟨_, rfl, _, _, _, _, _, rfl, .own _, .base (.ins hya M.cl IF.ha IF.hn IF.ht IF.hm), IF.kc, _, rfl, iteT ?_⟩
      refine ⟨_, rfl, xa, dx, _, rfl, hxa, rfl, xa, dx, n, p, r, z, c, rfl, hxa, fun t ht => ?_⟩
      have e1 := Evl.Ex.new (o := .tup [n, p, r, z, c]) ht
      refine ⟨_, rfl, ya, dy, _, rfl, e1 _ _ hya, rfl, ya, dy, n', p', r', z', c', rfl, e1 _ _ hya, fun t' ht' => ?_⟩
      have e2 := Evl.Ex.new (o := .tup [n', p', r', z', c']) ht'
      exact ⟨_, _, .tup (SqT.of (e2 _ _ upd_same)) (dpAll_of (hds.ext (e1.trans e2)) (SeqAt.canLay_of_shaped sd)), .tup (SqT.of upd_same) (dpAll_of (hes.ext (e1.trans e2)) (SeqAt.canLay_of_shaped se)), sd, se, hQ _ (e1.trans e2)⟩
    · exact ⟨_, rfl, _, _, _, _, _, rfl, .own _, .base (.lst hb), IF.kl, _, rfl, iteF (hQ _ (Evl.Ex.refl _))⟩
end
end K50
set_option Elab.async false
set_option linter.all false
set_option maxRecDepth 100000
set_option maxHeartbeats 2000000
/-! sets of texts: made, grown -/
namespace TX
open PySem PySem.Spec PyProof.Rows L2
def keyS (e : Int × Value) : Str := match e.2 with | .str k _ => k | _ => Str.empty
def GoodS (w : World) (e : Int × Value) : Prop := ∃ k tk, e.2 = Value.str k tk ∧ e.1 = hashStr w k
/-- the set of bools at a: S its members, n their number; its table rises and can be walked -/
def SetS (w : World) (h : Heap) (a : Addr) (S : Str → Bool) (n : Nat) : Prop :=
  ∃ o es ep t, h.get? a = some o ∧ o.ExactSet ∧ o.data = .set es ep t ∧ (∀ e ∈ es.toList, GoodS w e) ∧ (es.toList.map keyS).Nodup ∧ (∀ k, S k = true ↔ k ∈ es.toList.map keyS) ∧
    es.size < scanBound ∧ t.fits es.size = true ∧ es.size = n ∧ Ris t.place.toList ∧ (w.params.followText "set-order" = true ∨ t.led = true)

section
variable {P : Program} {w : World} {h h' : Heap} {a : Addr} {S : Str → Bool} {n : Nat}

theorem SetS.at (R : SetS w h a S n) (k : ∀ o, h.get? a = some o → h'.get? a = some o) : SetS w h' a S n := by
  obtain ⟨o, es, ep, t, ho, r⟩ := R
  exact ⟨o, es, ep, t, k o ho, r⟩
theorem SetS.lt (R : SetS w h a S n) : a < h.objs.size := by
  obtain ⟨o, es, ep, t, ho, r⟩ := R
  exact Heap.lt_size ho
theorem SetS.congr {S' : Str → Bool} (R : SetS w h a S n) (e : ∀ k, S' k = S k) : SetS w h a S' n := by
  have q : S' = S := funext e
  rw [q]; exact R
theorem goodS_elems {l : List (Int × Value)} (g : ∀ e ∈ l, GoodS w e) : ElemsOf (strKind P w) l := fun e he => by
  obtain ⟨k, tk, h1, h2⟩ := g e he
  exact ⟨⟨k, by rw [h1]; exact strKind_is P w k tk, h2⟩, by rw [h1] <;> rfl⟩
theorem goodS_is {e : Int × Value} (g : GoodS w e) (k : Str) : (strKind P w).is k e.2 = true ↔ keyS e = k := by
  obtain ⟨k0, tk, h1, _⟩ := g
  unfold keyS
  rw [h1]
  exact ⟨fun h => ((strKind P w).inj _ _ _ (strKind_is P w k0 tk) h), fun h => by subst h; exact strKind_is P w k0 tk⟩
theorem goodS_mem {l : List (Int × Value)} (g : ∀ e ∈ l, GoodS w e) (k : Str) : k ∈ l.map keyS ↔ ∃ e ∈ l, (strKind P w).is k e.2 = true := by
  rw [List.mem_map]
  constructor
  · rintro ⟨e, he, q⟩
    exact ⟨e, he, (goodS_is (g e he) k).2 q⟩
  · rintro ⟨e, he, q⟩
    exact ⟨e, he, (goodS_is (g e he) k).1 q⟩
theorem SetS.setOf (R : SetS w h a S n) : h.SetOf (strKind P w) a S n := by
  obtain ⟨o, es, ep, t, ho, hx, hd, g, nd, hm, hb, hf, hn, _⟩ := R
  exact ⟨o, es, ep, t, ho, hx, hd, goodS_elems g, fun k => (hm k).trans (goodS_mem g k), hb, hf, hn⟩
end

section
variable {P : Program} {w : World} {A : Around} {E : Value → Shared → Prop} {s : Shared} {a : Addr} {S : Str → Bool} {n : Nat}

/-! ### add -/
theorem storeS_at {h : Heap} {a : Addr} {o : Obj} {es es' : Array (Int × Value)} {ep : Nat} {t t' : SetTable} (ho : h.get? a = some o) (hd : o.data = .set es ep t) :
    (h.update a (Obj.putSet es' t')).get? a = some { o with data := .set es' (ep + 1) t' } := by
  have q := Heap.get?_update_self (Obj.putSet es' t') ho (by rw [putSet_of es' t' hd]; rfl)
  rw [putSet_of es' t' hd] at q
  exact q

theorem setS_add_tail {g : Bool → Sem Unit} (hg : ∀ (b : Bool) (s₁ : Shared) (Q' : Unit → Shared → Prop), Q' () s₁ → wpAny (model P w) A (g b) Q' E s₁)
    {o : Obj} {es : Array (Int × Value)} {ep : Nat} {t : SetTable} (ho : s.heap.get? a = some o) (hex : o.ExactSet) (hd : o.data = .set es ep t)
    {es1 : Array (Int × Value)} {t2 : SetTable} {S' : Str → Bool} (g1 : ∀ e ∈ es1.toList, GoodS w e) (nd1 : (es1.toList.map keyS).Nodup) (m1 : ∀ k, S' k = true ↔ k ∈ es1.toList.map keyS)
    (hb1 : es1.size < scanBound) (hf2 : t2.fits es1.size = true) (hr : Ris t2.place.toList) (hl : w.params.followText "set-order" = true ∨ t2.led = true) {wasDummy : Bool} {R : Option Bool → Shared → Prop}
    (hR : ∀ h', Heap.SameBut a s.heap h' → SetS w h' a S' es1.size → R (some true) { s with heap := h' }) :
    wpAny (model P w) A (do
        storeSet a es1 t2
        if (!wasDummy && t2.tooFull) = true then do
            g (relayAll t2 es1 (SetTable.grown es1.size)).2.2
            storeSet a (relayAll t2 es1 (SetTable.grown es1.size)).1 (relayAll t2 es1 (SetTable.grown es1.size)).2.1
            pure (some true)
          else pure (some true)) R E s := by
  refine wpAny_bind (wpAny_storeSet_of ho hd ?_ (fits_of_scanBound hb1))
  have ho1 := storeS_at (es' := es1) (t' := t2) ho hd
  have sb1 := Heap.SameBut.update s.heap a (Obj.putSet es1 t2)
  split
  · have pm := relayAll_perm t2 es1 (SetTable.grown es1.size)
    have hf3 := relayAll_fits t2 es1 (SetTable.grown es1.size)
    have hr3 := relayAll_ris t2 es1 (SetTable.grown es1.size)
    have hl3 := relayAll_led t2 es1 (SetTable.grown es1.size)
    generalize relayAll t2 es1 (SetTable.grown es1.size) = Z at pm hf3 hr3 hl3 ⊢
    obtain ⟨es2, t3, gave⟩ := Z
    dsimp only at pm hf3 hr3 hl3 ⊢
    have hsz : es2.size = es1.size := by rw [← Array.length_toList, pm.length_eq, Array.length_toList]
    have hb2 : es2.size < scanBound := by rw [hsz]; exact hb1
    refine wpAny_bind (hg _ _ _ ?_)
    refine wpAny_bind (wpAny_storeSet_of ho1 rfl ?_ (fits_of_scanBound hb2))
    have ho2 := storeS_at (es' := es2) (t' := t3) ho1 rfl
    refine wpAny_pure (hR _ (sb1.trans (Heap.SameBut.update _ a _)) ?_)
    exact ⟨_, es2, _, t3, ho2, hex, rfl, fun e he => g1 e (pm.mem_iff.mp he), (pm.map keyS).nodup_iff.mpr nd1, fun k => (m1 k).trans (pm.map keyS).mem_iff.symm, hb2, hf3, hsz, hr3,
      hl.imp id fun z => by rw [hl3]; exact z⟩
  · exact wpAny_pure (hR _ sb1 ⟨_, es1, _, t2, ho1, hex, rfl, g1, nd1, m1, hb1, hf2, rfl, hr, hl⟩)

theorem setS_add_hashed {k : Str} {tk : Tok} {Q : Bool → Shared → Prop} (R : SetS w s.heap a S n) (room : n + 1 < scanBound)
    (hQ : ∀ h', Heap.SameBut a s.heap h' → SetS w h' a (fun j => S j || decide (j = k)) (if S k = true then n else n + 1) → Q (!S k) { s with heap := h' }) :
    wpAny (model P w) A (setAddHashed a (.str k tk) ((strKind P w).hash k)) Q E s := by
  obtain ⟨o, es, ep, t, ho, hex, hd, g, nd, hm, hb, hf, hn, hr, hl⟩ := R
  have hkey : (strKind P w).is k (.str k tk) = true := strKind_is P w k tk
  have hsc : (Value.str k tk).scannable = true := rfl
  have hel : ElemsOf (strKind P w) es.toList := goodS_elems g
  unfold setAddHashed setAddHashedIn
  refine wpAny_holding (wpAny_bind (wpAny_setState_of ho hd hf ?_))
  dsimp only
  rw [byScan_of hsc hb hel]
  simp only [↓reduceIte]
  unfold setAddByScan
  refine wpAny_bind ?_
  refine wpAny_bind (wpAny_rule ?_)
  refine wpAny_bind (wpAny_setScan_of hkey ho hd hf hel ?_)
  cases hfi : List.findIdx? (fun e => (strKind P w).is k e.2) es.toList with
  | some j =>
    dsimp only
    obtain ⟨hj, pj, _⟩ := List.findIdx?_eq_some_iff_getElem.mp hfi
    have hSk : S k = true := (hm k).2 ((goodS_mem (P := P) (w := w) g k).2 ⟨es.toList[j], List.getElem_mem hj, pj⟩)
    refine wpAny_pure (wpAny_pure ?_)
    have q := hQ s.heap (Heap.SameBut.refl a s.heap) ⟨o, es, ep, t, ho, hex, hd, g, nd, fun i => by
      rw [Bool.or_eq_true, decide_eq_true_eq, ← hm i]
      exact ⟨fun z => z.elim id (fun e => e ▸ hSk), .inl⟩, hb, hf, by rw [if_pos hSk]; exact hn, hr, hl⟩
    rw [hSk] at q
    exact q
  | none =>
    dsimp only
    have hnk : k ∉ es.toList.map keyS := fun z => by
      obtain ⟨e, he, q⟩ := (goodS_mem (P := P) (w := w) g k).1 z
      have c := List.findIdx?_eq_none_iff.mp hfi e he
      rw [q] at c
      cases c
    have hSk : S k = false := by
      cases q : S k with
      | false => rfl
      | true => exact absurd ((hm k).1 q) hnk
    have hgw : ∀ (b : Bool) {s₁ : Shared} {Q' : Unit → Shared → Prop}, Q' () s₁ → wpAny (model P w) A (match b with | true => rule "set.scan.the-table-gave-way" | false => pure ()) Q' E s₁ :=
      fun b s₁ Q' q => by cases b <;> first | exact wpAny_pure q | exact wpAny_rule q
    have pm := layNew_perm t es ((strKind P w).hash k) (.str k tk)
    have hf1 := layNew_fits t es ((strKind P w).hash k) (.str k tk)
    have hr1 := layNew_ris t es ((strKind P w).hash k) (.str k tk) hr
    have hl1 := layNew_led t es ((strKind P w).hash k) (.str k tk)
    generalize layNew t es ((strKind P w).hash k) (.str k tk) = Z at pm hf1 hr1 hl1 ⊢
    obtain ⟨es1, t1, wasDummy, gave⟩ := Z
    dsimp only at pm hf1 hr1 hl1 ⊢
    rw [Array.toList_push] at pm
    have pc : es1.toList.Perm (((strKind P w).hash k, Value.str k tk) :: es.toList) := pm.trans (List.perm_append_singleton _ _)
    have pk : (es1.toList.map keyS).Perm (k :: es.toList.map keyS) := pc.map keyS
    have g1 : ∀ e ∈ es1.toList, GoodS w e := fun e he => by
      rcases List.mem_cons.mp (pc.mem_iff.mp he) with z | z
      · rw [z]; exact ⟨k, tk, rfl, rfl⟩
      · exact g e z
    have nd1 : (es1.toList.map keyS).Nodup := pk.nodup_iff.mpr (List.nodup_cons.mpr ⟨hnk, nd⟩)
    have m1 : ∀ i, (S i || decide (i = k)) = true ↔ i ∈ es1.toList.map keyS := fun i => by
      rw [Bool.or_eq_true, decide_eq_true_eq, hm i, pk.mem_iff, List.mem_cons]
      exact Or.comm
    have hsz : es1.size = n + 1 := by rw [← Array.length_toList, pc.length_eq, List.length_cons, Array.length_toList, hn]
    have hb1 : es1.size < scanBound := by rw [hsz]; exact room
    have hled : w.params.followText "set-order" = true ∨ t1.led = true := hl.imp id fun z => by rw [hl1]; exact z
    have fin : ∀ h', Heap.SameBut a s.heap h' → SetS w h' a (fun j => S j || decide (j = k)) es1.size → Q true { s with heap := h' } := fun h' sb r => by
      have q := hQ h' sb
      rw [hSk] at q
      rw [hsz] at r
      exact q r
    refine wpAny_bind (hgw _ ?_)
    split
    · refine wpAny_bind ?_
      rw [hashByValue_scannable 8 hsc]
      refine wpAny_pure ?_
      refine setS_add_tail ?_ ho hex hd g1 nd1 m1 hb1 ?_ ?_ ?_ ?_
      · intro b s₁ Q' q; cases b <;> first | exact wpAny_pure q | exact wpAny_rule q
      · first | (split <;> first | exact hf1 | exact SetTable.fits_plain_off hf1) | exact hf1
      · first | (split <;> exact hr1) | exact hr1
      · first | (split <;> exact hled) | exact hled
      · intro h' sb r; dsimp only; exact wpAny_pure (fin h' sb r)
    · refine wpAny_bind (wpAny_pure ?_)
      simp only [↓reduceIte]
      refine setS_add_tail ?_ ho hex hd g1 nd1 m1 hb1 hf1 hr1 hled ?_
      · intro b s₁ Q' q; cases b <;> first | exact wpAny_pure q | exact wpAny_rule q
      · intro h' sb r; dsimp only; exact wpAny_pure (fin h' sb r)

/-- found.add(k) -/
theorem setS_add {k : Str} {tk : Tok} {Q : Value → Shared → Prop} (R : SetS w s.heap a S n) (room : n + 1 < scanBound)
    (hQ : ∀ h', Heap.SameBut a s.heap h' → SetS w h' a (fun j => S j || decide (j = k)) (if S k = true then n else n + 1) → Q .none { s with heap := h', toks := s.toks + 1 }) :
    wpAny (model P w) A (call (.builtin "set.add") [.ref a, .str k tk]) Q E s := by
  have hS : s.heap.SetOf (strKind P w) a S n := R.setOf
  refine wpAny_call_entry F.slot_set_add hS.typeIs F.entry_set_add ?_ (F.args_set_add_2 _ _)
  unfold Builtin.«set.add» Builtin.Frozenset.oneOther
  simp only [List.isEmpty_nil, bind_assoc]
  unfold Builtin.Frozenset.addrOf setAdd
  refine wpAny_bind (wpAny_pure ?_)
  try dsimp only
  refine wpAny_bind (wpAny_pure ?_)
  try dsimp only
  refine wpAny_bind ?_
  refine wpAny_holding ?_
  refine wpAny_bind ((strKind P w).pyHash (strKind_is P w k tk) ?_)
  refine setS_add_hashed (s := { s with toks := s.toks + 1 }) R room fun h' sb r => ?_
  show wpAny _ _ (ret Value.none) _ _ _
  exact wpAny_pure ⟨_, rfl, hQ h' sb r⟩

end
section
variable {P : Program} {w : World} {A : Around} {E : Value → Shared → Prop} {s : Shared}
end
end TX
set_option Elab.async false
set_option linter.all false
set_option maxRecDepth 100000
set_option maxHeartbeats 2000000
/-! the order of texts; set(list of texts), set(tuple of texts) -/
namespace TX
open PySem PySem.Spec PyProof.Rows L2
/-! ### the order -/
def ltS (a b : Str) : Bool := decide (a.cps.toList < b.cps.toList)
theorem ltS_irr (a : Str) : ltS a a = false := decide_eq_false (List.lt_irrefl _)
theorem ltS_trans {a b c : Str} (h : ltS a b = true) (g : ltS b c = true) : ltS a c = true := decide_eq_true (List.lt_trans (of_decide_eq_true h) (of_decide_eq_true g))
theorem str_ext {a b : Str} (h : a.cps.toList = b.cps.toList) : a = b := by
  cases a; cases b
  simp only [Str.mk.injEq]
  exact Array.toList_inj.mp h
theorem ltS_tri {a b : Str} (h : ltS a b = false) (n : a ≠ b) : ltS b a = true := by
  refine decide_eq_true ?_
  have h1 : ¬ a.cps.toList < b.cps.toList := of_decide_eq_false h
  have h2 : b.cps.toList ≤ a.cps.toList := List.not_lt.mp h1
  rcases List.le_iff_lt_or_eq.mp h2 with h3 | h3
  · exact h3
  · exact absurd (str_ext h3.symm) n
def Srt (l : List Str) : Prop := l.Pairwise fun a b => ltS a b = true
def ins (x : Str) : List Str → List Str
  | [] => [x]
  | y :: r => if x = y then y :: r else if ltS x y = true then x :: y :: r else y :: ins x r
def canon : List Str → List Str
  | [] => []
  | x :: r => ins x (canon r)
theorem mem_ins {k x : Str} : ∀ {l : List Str}, k ∈ ins x l ↔ k = x ∨ k ∈ l
  | [] => by simp [ins]
  | y :: r => by
    unfold ins
    split
    · rename_i h; subst h; simp
    · split
      · simp
      · rw [List.mem_cons, mem_ins, List.mem_cons]
        exact ⟨fun h => h.elim (fun h => .inr (.inl h)) fun h => h.elim .inl fun h => .inr (.inr h), fun h => h.elim (fun h => .inr (.inl h)) fun h => h.elim .inl fun h => .inr (.inr h)⟩
theorem mem_canon {k : Str} : ∀ {l : List Str}, k ∈ canon l ↔ k ∈ l
  | [] => by simp [canon]
  | x :: r => by rw [canon, mem_ins, mem_canon, List.mem_cons]
theorem srt_ins {x : Str} : ∀ {l : List Str}, Srt l → Srt (ins x l)
  | [], _ => by simp [ins, Srt]
  | y :: r, h => by
    obtain ⟨h1, h2⟩ := List.pairwise_cons.mp h
    unfold ins
    split
    · exact h
    · rename_i ne
      split
      · rename_i lt
        refine List.pairwise_cons.mpr ⟨fun z hz => ?_, h⟩
        rcases List.mem_cons.mp hz with rfl | hz
        · exact lt
        · exact ltS_trans lt (h1 z hz)
      · rename_i nl
        refine List.pairwise_cons.mpr ⟨fun z hz => ?_, srt_ins h2⟩
        rcases mem_ins.mp hz with rfl | hz
        · exact ltS_tri (by simpa using nl) ne
        · exact h1 z hz
theorem srt_canon : ∀ (l : List Str), Srt (canon l)
  | [] => List.Pairwise.nil
  | x :: r => srt_ins (srt_canon r)
theorem Srt.nodup {l : List Str} (h : Srt l) : l.Nodup := h.imp fun {a b} g e => by subst e; rw [ltS_irr] at g; cases g
theorem Srt.ext : ∀ {a b : List Str}, Srt a → Srt b → (∀ k, k ∈ a ↔ k ∈ b) → a = b
  | [], [], _, _, _ => rfl
  | [], y :: s, _, _, h => absurd ((h y).mpr List.mem_cons_self) (by simp)
  | x :: r, [], _, _, h => absurd ((h x).mp List.mem_cons_self) (by simp)
  | x :: r, y :: s, ha, hb, h => by
    obtain ⟨a1, a2⟩ := List.pairwise_cons.mp ha
    obtain ⟨b1, b2⟩ := List.pairwise_cons.mp hb
    have e : x = y := by
      rcases List.mem_cons.mp ((h x).mp List.mem_cons_self) with e | e
      · exact e
      · rcases List.mem_cons.mp ((h y).mpr List.mem_cons_self) with g | g
        · exact g.symm
        · have := ltS_trans (a1 y g) (b1 x e)
          rw [ltS_irr] at this
          cases this
    subst e
    refine congrArg _ (Srt.ext a2 b2 fun k => ⟨fun hk => ?_, fun hk => ?_⟩)
    · rcases List.mem_cons.mp ((h k).mp (List.mem_cons_of_mem _ hk)) with e | e
      · subst e
        have := a1 k hk
        rw [ltS_irr] at this
        cases this
      · exact e
    · rcases List.mem_cons.mp ((h k).mpr (List.mem_cons_of_mem _ hk)) with e | e
      · subst e
        have := b1 k hk
        rw [ltS_irr] at this
        cases this
      · exact e
theorem canon_of {l : List Str} (h : Srt l) : canon l = l := (srt_canon l).ext h fun _ => mem_canon
theorem canon_congr {a b : List Str} (h : ∀ k, k ∈ a ↔ k ∈ b) : canon a = canon b := (srt_canon a).ext (srt_canon b) fun k => by rw [mem_canon, mem_canon, h]
theorem canon_len (l : List Str) : (canon l).length ≤ l.length := by
  induction l with
  | nil => exact Nat.le_refl _
  | cons x r ih =>
    have : ∀ l : List Str, (ins x l).length ≤ l.length + 1 := by
      intro l
      induction l with
      | nil => exact Nat.le_refl _
      | cons y s ih =>
        unfold ins
        split
        · simp
        · split
          · simp
          · simpa using ih
    have h2 := this (canon r)
    simp only [canon, List.length_cons]
    omega
theorem nodup_perm {a b : List Str} (ha : a.Nodup) (hb : b.Nodup) (h : ∀ k, k ∈ a ↔ k ∈ b) : a.Perm b := (List.perm_ext_iff_of_nodup ha hb).mpr h
theorem rising_srt : ∀ {p : Str} {l : List Str}, risingS p l = true → (p :: l).Nodup → Srt (p :: l)
  | p, [], _, _ => List.pairwise_singleton _ _
  | p, x :: r, h, nd => by
    have h0 : (!ltCps x.cps.toList p.cps.toList && risingS x r) = true := h
    rw [Bool.and_eq_true, ltCps_eq] at h0
    obtain ⟨n1, n2⟩ := List.nodup_cons.mp nd
    have ih := rising_srt h0.2 n2
    have lt : ltS p x = true := ltS_tri (by simpa [ltS] using h0.1) (fun e => n1 (by rw [e]; exact List.mem_cons_self))
    refine List.pairwise_cons.mpr ⟨fun z hz => ?_, ih⟩
    rcases List.mem_cons.mp hz with rfl | hz
    · exact lt
    · exact ltS_trans lt ((List.pairwise_cons.mp ih).1 z hz)
theorem sorted_srt : ∀ {l : List Str}, sortedS l = true → l.Nodup → Srt l
  | [], _, _ => List.Pairwise.nil
  | _ :: _, h, nd => rising_srt h nd
/-! ### the number of a set -/
theorem SetS.canon {w : World} {h : Heap} {a : Addr} {n : Nat} {xs ys : List Str} (R : SetS w h a (fun k => decide (k ∈ ys)) n) (e : ys = xs) : SetS w h a (fun k => decide (k ∈ xs)) (canon xs).length := by
  subst e
  obtain ⟨o, es, ep, t, ho, hx, hd, g, nd, hm, hb, hf, hn, r⟩ := R
  refine ⟨o, es, ep, t, ho, hx, hd, g, nd, hm, hb, hf, ?_, r⟩
  have p : (es.toList.map keyS).Perm (TX.canon ys) := nodup_perm nd (srt_canon _).nodup fun k => by
    rw [mem_canon, ← hm k, decide_eq_true_eq]
  rw [← p.length_eq, List.length_map, Array.length_toList]
theorem setS_at0 {w : World} {h : Heap} {a : Addr} {led : Bool} (e : led = (!w.params.followText "set-order")) (ho : h.get? a = some { cls := .type "set", dict := none, data := .set #[] 0 (.fresh 0 0 led) }) : SetS w h a (fun _ => false) 0 := by
  subst e
  exact ⟨_, #[], 0, _, ho, ⟨rfl, rfl, rfl⟩, rfl, (fun e he => by simp at he), (by simp), (fun k => by simp), (by decide), (by rfl), rfl, List.Pairwise.nil, by
    show _ ∨ (!w.params.followText "set-order") = true
    cases w.params.followText "set-order"
    · exact .inr rfl
    · exact .inl rfl⟩
section
variable {prog : Program} {w : World} {A : Around} {E : Value → Shared → Prop} {s : Shared}
theorem code_set_led1 (a : Value) {Q₁ : Value → Shared → Prop}
    (h : Q₁ (.ref s.heap.objs.size) { s with heap := s.heap.push { cls := .type "set", dict := none, data := .set #[] 0 (.fresh 0 0 (!w.params.followText "set-order")) } }) :
    codeAny (model prog w) A (.call (.builtin "set.__new__") ⟨[.type "set", a], []⟩) (wants Q₁ E) s := by
  refine codeAny_of_tree ?_
  show wpAny _ A.in1 (do checkBuiltinCall "set.__new__" ⟨[.type "set", a], []⟩; again (.builtin "set.__new__" ⟨[.type "set", a], []⟩)) _ _ s
  refine wpAny_bind (wpAny_of_eq (PySem.F.newCall_set_1 a) (wpAny_pure ⟨plainId_quiet PySem.F.plain_set_new _, codeAny_builtin PySem.F.entry_set_new ?_⟩))
  rw [Around.under_plainId PySem.F.plain_set_new _]
  unfold Builtin.«set.__new__» Builtin.Frozenset.newClass
  have hsub := PySem.sub_set_self
  obtain ⟨hp, g, d, tk, os⟩ := s
  dsimp only
  wp_walk
  refine wpAny_askSetting (wpAny_pure ?_)
  dsimp only
  simp only [newObj]
  refine wpAny_bind (wpAny_alloc (wpAny_pure ?_))
  exact wpAny_pure h
end
section
variable {prog : Program} {w : World} {A : Around} {R : Result → Shared → Prop} {I : Addr} {fp wr : List Addr} {G : Array GenState → Array GenState → Prop} {n : Nat} {P : Nat → Value → Prop} {St : Nat → Shared → Prop}
theorem loopTx (W : WalksS prog w A.in1 I fp wr G n P St) (S : Addr) (hSf : S ∉ fp) (xs : List Str) (hsz : xs.length = n) (hb : n + 1 < scanBound)
    (hval : ∀ i v, P i v → ∃ t, v = .str (xs.getD i Str.empty) t) :
    ∀ (k i : Nat) (s : Shared), n - i = k → i ≤ n → St i s →
      (∃ m, m ≤ i ∧ SetS w s.heap S (fun k' => decide (k' ∈ xs.take i)) m) →
      (∀ s', Moved (S :: wr) G s s' → (∃ m, m ≤ n ∧ SetS w s'.heap S (fun k' => decide (k' ∈ xs.take n)) m) → R (.ok (.ret .none)) s') →
      codeAny (model prog w) A (.builtin "set.update.loop" ⟨[.ref S, .ref I], []⟩) R s := by
  have hSw : S ∉ wr := fun h => hSf (W.sub _ h)
  have hsub : ∀ b ∈ wr, b ∈ S :: wr := fun b hb => List.mem_cons_of_mem _ hb
  intro k
  induction k with
  | zero =>
    intro i s hk hi hst hS hR
    have hin : i = n := by omega
    subst hin
    refine codeAny_builtin PyProof.Rows.F.entry_set_update_loop ?_
    rw [Around.under_plainId PyProof.Rows.F.plain_set_update_loop _]
    show wpAny _ A.in1 (pyNext (.ref I) >>= _) _ _ s
    refine wpAny_bind (W.done s _ _ hst fun s' hm => ?_)
    show wpAny _ A.in1 (ret Value.none) _ _ s'
    obtain ⟨m, hm1, hS⟩ := hS
    exact wpAny_pure (hR s' (hm.mono hsub) ⟨m, hm1, hS.at fun o e => hm.heap S _ hSw e⟩)
  | succ k ih =>
    intro i s hk hi hst hS hR
    have hlt : i < n := by omega
    refine codeAny_builtin PyProof.Rows.F.entry_set_update_loop ?_
    rw [Around.under_plainId PyProof.Rows.F.plain_set_update_loop _]
    show wpAny _ A.in1 (pyNext (.ref I) >>= _) _ _ s
    refine wpAny_bind (W.item i s _ _ hlt hst fun v s' hP hst' hm => ?_)
    obtain ⟨t, rfl⟩ := hval i v hP
    obtain ⟨m, hm1, hS⟩ := hS
    have hS' := hS.at (h' := s'.heap) fun o e => hm.heap S _ hSw e
    show wpAny _ A.in1 (holding [Value.str (xs.getD i Str.empty) t] (setAdd S (.str (xs.getD i Str.empty) t)) >>= _) _ _ s'
    refine wpAny_bind (wpAny_holding ?_)
    unfold setAdd
    refine wpAny_holding ?_
    refine wpAny_bind ((PySem.strKind prog w).pyHash (k := xs.getD i Str.empty) (strKind_is _ _ _ _) ?_)
    refine setS_add_hashed (P := prog) (s := { s' with toks := s'.toks + 1 }) hS' (by omega) fun h' hsb hS2 => ?_
    have hSi : ∃ m, m ≤ i + 1 ∧ SetS w h' S (fun k' => decide (k' ∈ xs.take (i + 1))) m := by
      refine ⟨_, ?_, hS2.congr fun k' => ?_⟩
      · split <;> omega
      · have hx : i < xs.length := by omega
        rw [List.take_succ, List.getElem?_eq_getElem hx]
        have : xs.getD i Str.empty = xs[i] := by simp [List.getD, List.getElem?_eq_getElem hx]
        rw [this]
        rw [Bool.eq_iff_iff]
        simp only [List.mem_append, Option.toList, List.mem_singleton, decide_eq_true_eq, Bool.or_eq_true]
    refine wpAny_pure ⟨plainId_quiet PyProof.Rows.F.plain_set_update_loop _, ih (i + 1) _ (by omega) hlt (W.frame _ s' _ _ hst' (Nat.le_succ _) fun b hb o e => ?_) hSi fun s'' hm'' hS'' => ?_⟩
    · rw [hsb.2 b (fun h : b = S => hSf (by rw [← h]; exact hb))]; exact e
    · refine hR s'' (Moved.trans W.gtrans ((hm.mono hsub).then_heap (Nat.le_succ _) fun b o hb e => ?_) hm'') hS''
      rw [hsb.2 b (fun h : b = S => hb (by rw [h]; exact List.mem_cons_self))]; exact e
end
end TX
set_option Elab.async false
set_option linter.all false
set_option maxRecDepth 100000
set_option maxHeartbeats 2000000
/-! a set's table laid anew, masks up to 255 -/
namespace TX
open PySem PySem.Spec PyProof.Rows L2
/-- the masks that come -/
def MaskQ (m : Nat) : Prop := m = 7 ∨ m = 15 ∨ m = 31 ∨ m = 63 ∨ m = 127 ∨ m = 255
def lcgS (m : Nat) : Nat → Nat → List Nat
  | 0, _ => []
  | n + 1, i => i :: lcgS m n ((i * 5 + 1) % (m + 1))
theorem lcgS_get (m : Nat) : ∀ (n b i : Nat), b < n → (lcgS m n i)[b]? = some (lcgI m i b)
  | 0, b, i, h => absurd h (Nat.not_lt_zero _)
  | n + 1, 0, i, h => rfl
  | n + 1, b + 1, i, h => by
    show (lcgS m n ((i * 5 + 1) % (m + 1)))[b]? = _
    rw [lcgS_get m n b _ (by omega)]
    have sh : ∀ b i, lcgI m ((i * 5 + 1) % (m + 1)) b = lcgI m i (b + 1) := by
      intro b i
      induction b with
      | zero => rfl
      | succ b ih => show (lcgI m ((i * 5 + 1) % (m + 1)) b * 5 + 1) % (m + 1) = (lcgI m i (b + 1) * 5 + 1) % (m + 1); rw [ih]
    rw [sh]
theorem lcgN_I (m : Nat) : ∀ b, lcgN m b = lcgI m 0 b
  | 0 => rfl
  | b + 1 => by show (lcgN m b * 5 + 1) % (m + 1) = (lcgI m 0 b * 5 + 1) % (m + 1); rw [lcgN_I m b]
theorem lcg_all {m : Nat} (hm : MaskQ m) {j : Nat} (hj : j ≤ m) : ∃ b, b ≤ m ∧ lcgN m b = j := by
  have key : ∀ n : Nat, ((List.range (n + 1)).all fun j => (lcgS n (n + 1) 0).contains j) = true → ∀ j, j ≤ n → ∃ b, b ≤ n ∧ lcgN n b = j := by
    intro n h j hj
    have h1 := List.all_eq_true.mp h j (List.mem_range.mpr (Nat.lt_succ_of_le hj))
    have h2 : j ∈ lcgS n (n + 1) 0 := by simpa using h1
    obtain ⟨b, hb⟩ := List.mem_iff_getElem?.mp h2
    have len : ∀ n i, (lcgS m n i).length = n := by
      intro n
      induction n with
      | zero => intro i; rfl
      | succ n ih => intro i; show (lcgS m n _).length + 1 = _; rw [ih]
    have len : ∀ k i, (lcgS n k i).length = k := by
      intro k
      induction k with
      | zero => intro i; rfl
      | succ k ih => intro i; show (lcgS n k _).length + 1 = _; rw [ih]
    have hb2 : b < n + 1 := by
      have := (List.getElem?_eq_some_iff.mp hb).1
      rw [len] at this
      exact this
    rw [lcgS_get n (n + 1) b 0 hb2] at hb
    exact ⟨b, by omega, by rw [lcgN_I]; exact Option.some.inj hb⟩
  rcases hm with e | e | e | e | e | e <;> subst e <;> exact key _ (by decide +kernel) j hj
theorem lcg_round {m : Nat} (hm : MaskQ m) : lcgN m (m + 1) = 0 := by
  rcases hm with e | e | e | e | e | e <;> subst e <;> decide +kernel

theorem lcgN_mod {m : Nat} (hm : MaskQ m) : ∀ k, lcgN m (m + 1 + k) = lcgN m k
  | 0 => lcg_round hm
  | k + 1 => by
    show (lcgN m (m + 1 + k) * 5 + 1) % (m + 1) = (lcgN m k * 5 + 1) % (m + 1)
    rw [lcgN_mod hm k]
/-- from anywhere each slot is met within a round -/
theorem lcgI_all {m : Nat} (hm : MaskQ m) {i j : Nat} (hi : i ≤ m) (hj : j ≤ m) : ∃ k, k ≤ m ∧ lcgI m i k = j := by
  obtain ⟨a, ha, ea⟩ := lcg_all hm hi
  obtain ⟨b, hb, eb⟩ := lcg_all hm hj
  rw [← ea]
  rcases Nat.lt_or_ge b a with c | c
  · refine ⟨b + (m + 1) - a, by omega, ?_⟩
    rw [lcgN_add]
    have e : a + (b + (m + 1) - a) = m + 1 + b := by omega
    rw [e, lcgN_mod hm, eb]
  · refine ⟨b - a, by omega, ?_⟩
    rw [lcgN_add]
    have e : a + (b - a) = b := by omega
    rw [e, eb]

/-- each slot begins a run early enough -/
theorem run_meets {m : Nat} (hm : MaskQ m) (h : Int) {j : Nat} (hj : j ≤ m) : ∃ n, n ≤ m + 12 ∧ runI m (SetTable.bits h) n = j := by
  obtain ⟨k, hk, e⟩ := lcgI_all hm (runI_le m (SetTable.bits h) 12) hj
  exact ⟨12 + k, by omega, by rw [runI_tail (bits_lt h)]; exact e⟩
theorem way_leQ {m : Nat} {h : Int} {k : Nat} : way m h k ≤ m := by
  have hi : SetTable.bits h % (m + 1) ≤ m := Nat.le_of_lt_succ (Nat.mod_lt _ (Nat.succ_pos _))
  have r := runEnd_bd hi
  have q := nth_in (m := m) k (runAt m (SetTable.bits h % (m + 1)) (SetTable.bits h)) (by
    show SetTable.bits h % (m + 1) + (SetTable.runEnd m (SetTable.bits h % (m + 1)) - SetTable.bits h % (m + 1)) ≤ m
    omega)
  show (nth m (runAt m (SetTable.bits h % (m + 1)) (SetTable.bits h)) k).j ≤ m
  omega
/-- a free slot is found, at the first free place of the way -/
theorem free_find {m : Nat} (hm : MaskQ m) (owner : Array (Option Nat)) (h : Int) {j : Nat} (hj : j ≤ m) (hf : oAt owner j = none) :
    ∃ K, SetTable.layClean.free m owner (SetTable.turns m) (SetTable.bits h % (m + 1)) (SetTable.bits h) = some (way m h K) ∧ oAt owner (way m h K) = none ∧ ∀ k, k < K → oAt owner (way m h k) ≠ none := by
  obtain ⟨n, hn, e⟩ := run_meets hm h hj
  have hw : way m h (off m (SetTable.bits h % (m + 1)) (SetTable.bits h) n) = j := by
    show (nth m (runAt m (SetTable.bits h % (m + 1)) (SetTable.bits h)) (off m (SetTable.bits h % (m + 1)) (SetTable.bits h) n)).j = j
    rw [nth_off, itL_run]
    exact e
  obtain ⟨K, k1, k2, k3⟩ := st_least (p := fun k => oAt owner (way m h k) = none) (off m (SetTable.bits h % (m + 1)) (SetTable.bits h) n) (by
    show oAt owner (way m h (off m (SetTable.bits h % (m + 1)) (SetTable.bits h) n)) = none
    rw [show way m h (off m (SetTable.bits h % (m + 1)) (SetTable.bits h) n) = j from hw]
    exact hf)
  refine ⟨K, ?_, k2, k3⟩
  refine free_spec m owner (SetTable.turns m) n _ _ K (by unfold SetTable.turns; omega) k1 (fun k hk => ?_) ?_
  · have q := k3 k hk
    cases z : oAt owner (nth m (runAt m (SetTable.bits h % (m + 1)) (SetTable.bits h)) k).j with
    | none => exact absurd z q
    | some _ => rfl
  · have q : oAt owner (nth m (runAt m (SetTable.bits h % (m + 1)) (SetTable.bits h)) K).j = none := k2
    rw [q] <;> rfl

theorem ownStep {m : Nat} (hm : MaskQ m) {done : List Int} {owner : Array (Option Nat)} (W : Own m done owner) (hl : done.length ≤ m) (h : Int) :
    ∃ j, SetTable.layClean.free m owner (SetTable.turns m) (SetTable.bits h % (m + 1)) (SetTable.bits h) = some j ∧ Own m (done ++ [h]) (owner.setIfInBounds j (some done.length)) := by
  obtain ⟨ps, hps, hin⟩ := W.ps
  obtain ⟨j0, h0, hn0⟩ := st_missing ps (m + 1) (by omega)
  have hj0 : oAt owner j0 = none := by
    cases z : oAt owner j0 with
    | none => rfl
    | some k => exact absurd (hin j0 (Nat.le_of_lt_succ h0) (by rw [z]; exact fun e => nomatch e)) hn0
  obtain ⟨K, e1, e2, e3⟩ := free_find hm owner h (Nat.le_of_lt_succ h0) hj0
  have hjm : way m h K ≤ m := way_leQ
  have hjs : way m h K < owner.size := by
    rw [W.sz]
    exact Nat.lt_succ_of_le hjm
  refine ⟨way m h K, e1, ?_⟩
  have hself := oAt_set_self (some done.length) hjs
  have mono : ∀ {i : Nat}, oAt owner i ≠ none → oAt (owner.setIfInBounds (way m h K) (some done.length)) i ≠ none := fun {i} hi => by
    by_cases c : i = way m h K
    · rw [c, hself]
      exact fun e => nomatch e
    · rw [oAt_set_ne _ c]
      exact hi
  refine ⟨by rw [Array.size_setIfInBounds]; exact W.sz, fun j k hj e => ?_, fun k hk => ?_, ⟨way m h K :: ps, by rw [List.length_cons, List.length_append, hps] <;> rfl, fun j hj e => ?_⟩⟩
  · by_cases c : j = way m h K
    · rw [c, hself] at e
      have ek : done.length = k := Option.some.inj e
      refine ⟨h, K, ?_, c.symm, fun k' hk' => mono (e3 k' hk')⟩
      rw [← ek, List.getElem?_append_right (Nat.le_refl _), Nat.sub_self] <;> rfl
    · rw [oAt_set_ne _ c] at e
      obtain ⟨h', K', a1, a2, a3⟩ := W.at_ j k hj e
      refine ⟨h', K', ?_, a2, fun k' hk' => mono (a3 k' hk')⟩
      rw [List.getElem?_append_left (List.getElem?_eq_some_iff.mp a1).1]
      exact a1
  · rw [List.length_append, List.length_singleton] at hk
    by_cases c : k < done.length
    · obtain ⟨j, hj, e⟩ := W.all k c
      refine ⟨j, hj, ?_⟩
      rw [oAt_set_ne _ (fun z => by rw [z, e2] at e; cases e)]
      exact e
    · have ek : k = done.length := by omega
      rw [ek]
      exact ⟨way m h K, hjm, hself⟩
  · by_cases c : j = way m h K
    · rw [c]
      exact List.mem_cons_self
    · rw [oAt_set_ne _ c] at e
      exact List.mem_cons_of_mem _ (hin j hj e)

theorem fold_ok {m : Nat} (hm : MaskQ m) : ∀ (rest done : List Int) (owner : Array (Option Nat)), Own m done owner → done.length + rest.length ≤ m →
    ∃ owner', rest.foldl (stepF m) (some (owner, done.length)) = some (owner', (done ++ rest).length) ∧ Own m (done ++ rest) owner'
  | [], done, owner, W, _ => ⟨owner, by rw [List.append_nil] <;> rfl, by rw [List.append_nil]; exact W⟩
  | h :: rest, done, owner, W, hl => by
    rw [List.length_cons] at hl
    obtain ⟨j, e, W'⟩ := ownStep hm W (by omega) h
    have hl' : (done ++ [h]).length = done.length + 1 := by rw [List.length_append] <;> rfl
    obtain ⟨owner', f, W2⟩ := fold_ok hm rest (done ++ [h]) _ W' (by rw [hl']; omega)
    have ea : done ++ [h] ++ rest = done ++ h :: rest := by rw [List.append_assoc] <;> rfl
    rw [ea, hl'] at f
    rw [ea] at W2
    refine ⟨owner', ?_, W2⟩
    rw [List.foldl_cons, stepF_some e]
    exact f
theorem layClean_ok {m : Nat} (hm : MaskQ m) {hs : Array Int} (hn : hs.size ≤ m) : ∃ owner, SetTable.layClean m hs = some owner ∧ Own m hs.toList owner := by
  obtain ⟨owner, f, W⟩ := fold_ok hm hs.toList [] _ (Own.init m) (by rw [Array.length_toList]; show 0 + hs.size ≤ m; omega)
  rw [List.nil_append] at W
  refine ⟨owner, ?_, W⟩
  rw [layClean_eq]
  have f' : hs.toList.foldl (stepF m) (some (Array.replicate (m + 1) none, 0)) = some (owner, ([] ++ hs.toList).length) := f
  rw [f'] <;> rfl

theorem relaid_ok (t : SetTable) {hs : Array Int} {wanted M : Nat} (hw : SetTable.sizeAbove wanted - 1 = M) (hM : MaskQ M) (hn : hs.size ≤ M) :
    ∃ t' order, t.relaid hs wanted = some (t', order) ∧ order.toList.Perm (List.range hs.size) ∧ Ris t'.place.toList ∧ t'.place.size = hs.size ∧ t'.mask = M ∧ t'.led = t.led ∧ t'.plain = t.plain ∧ t'.dummies = #[] := by
  obtain ⟨owner, e, W⟩ := layClean_ok hM hn
  have hr : t.relaid hs wanted = some (tabOf t M owner, ((liveOf M owner).map (·.2)).toArray) := by
    rw [relaid_eq, hw, e] <;> rfl
  have ris := ris_live (fun j => owner.getD j none) (List.range (M + 1)) (by
    unfold Ris
    first | exact List.pairwise_lt_range | exact List.pairwise_lt_range _)
  have r1 : Ris ((liveOf M owner).map (·.1)) := ris.1
  have r2 : ∀ x ∈ (liveOf M owner).map (·.1), x ∈ List.range (M + 1) := ris.2
  have nd : ((liveOf M owner).map (·.1)).Nodup := List.Pairwise.imp (fun h => Nat.ne_of_lt h) r1
  have hlen : (liveOf M owner).length = hs.size := by
    obtain ⟨ps, p1, p2⟩ := W.ps
    have a := nat_nodup_len ((liveOf M owner).map (·.1)) ps nd fun x hx => by
      obtain ⟨q, hq, eq1⟩ := List.mem_map.mp hx
      obtain ⟨y, k⟩ := q
      have ey : y = x := eq1
      subst ey
      obtain ⟨b1, b2⟩ := (mem_live W.sz).1 hq
      exact p2 y b1 (by rw [b2]; exact fun z => nomatch z)
    have b := nat_nodup_len (List.range hs.size) ((liveOf M owner).map (·.2)) List.nodup_range fun k hk => by
      obtain ⟨j, b1, b2⟩ := W.all k (by rw [Array.length_toList]; exact List.mem_range.mp hk)
      exact List.mem_map.mpr ⟨(j, k), (mem_live W.sz).2 ⟨b1, b2⟩, rfl⟩
    rw [List.length_map, p1] at a
    rw [List.length_map, List.length_range] at b
    have hz : hs.toList.length = hs.size := rfl
    omega
  refine ⟨tabOf t M owner, ((liveOf M owner).map (·.2)).toArray, hr, ?_, r1, ?_, rfl, rfl, rfl, rfl⟩
  · refine perm_range hs.size _ ?_ fun k hk => ?_
    · show ((liveOf M owner).map (·.2)).length = hs.size
      rw [List.length_map]
      exact hlen
    · obtain ⟨j, b1, b2⟩ := W.all k (by rw [Array.length_toList]; exact hk)
      exact List.mem_map.mpr ⟨(j, k), (mem_live W.sz).2 ⟨b1, b2⟩, rfl⟩
  · show ((liveOf M owner).map (·.1)).toArray.size = hs.size
    rw [List.size_toArray, List.length_map, hlen]
end TX
set_option Elab.async false
set_option linter.all false
set_option maxRecDepth 100000
set_option maxHeartbeats 2000000
/-! sets of texts: one put into another; the union -/
namespace TX
open PySem PySem.Spec PyProof.Rows L2
/-- a set of texts, its table in sight -/
def TabS (w : World) (h : Heap) (a : Addr) (es : Array (Int × Value)) (t : SetTable) : Prop :=
  ∃ o ep, h.get? a = some o ∧ o.ExactSet ∧ o.data = .set es ep t ∧ (∀ e ∈ es.toList, GoodS w e) ∧ (es.toList.map keyS).Nodup ∧ es.size < scanBound ∧ t.fits es.size = true ∧ Ris t.place.toList ∧
    (w.params.followText "set-order" = true ∨ t.led = true)
theorem SetS.tab {w : World} {h : Heap} {a : Addr} {S : Str → Bool} {n : Nat} (R : SetS w h a S n) : ∃ es t, TabS w h a es t ∧ (∀ k, S k = true ↔ k ∈ es.toList.map keyS) ∧ es.size = n := by
  obtain ⟨o, es, ep, t, ho, hx, hd, g, nd, hm, hb, hf, hn, hr, hl⟩ := R
  exact ⟨es, t, ⟨o, ep, ho, hx, hd, g, nd, hb, hf, hr, hl⟩, hm, hn⟩
theorem TabS.setS {w : World} {h : Heap} {a : Addr} {es : Array (Int × Value)} {t : SetTable} {S : Str → Bool} (R : TabS w h a es t) (hS : ∀ k, S k = true ↔ k ∈ es.toList.map keyS) : SetS w h a S es.size := by
  obtain ⟨o, ep, ho, hx, hd, g, nd, hb, hf, hr, hl⟩ := R
  exact ⟨o, es, ep, t, ho, hx, hd, g, nd, hS, hb, hf, rfl, hr, hl⟩
theorem TabS.at {w : World} {h h' : Heap} {a : Addr} {es : Array (Int × Value)} {t : SetTable} (R : TabS w h a es t) (k : ∀ o, h.get? a = some o → h'.get? a = some o) : TabS w h' a es t := by
  obtain ⟨o, ep, ho, r⟩ := R
  exact ⟨o, ep, k o ho, r⟩
def sizesOk : Bool := (List.range 256).all fun n => decide (SetTable.sizeAbove n ≤ 256) && (decide (n < SetTable.sizeAbove n) && [7, 15, 31, 63, 127, 255].contains (SetTable.sizeAbove n - 1))
theorem sizes_ok : sizesOk = true := by decide +kernel
theorem maskQ_of {m : Nat} (h : [7, 15, 31, 63, 127, 255].contains m = true) : MaskQ m := by
  simp only [List.contains_eq_mem, List.mem_cons, List.not_mem_nil, or_false, decide_eq_true_eq] at h
  exact h
theorem sizeAbove_ok {n : Nat} (h : n < 256) : SetTable.sizeAbove n ≤ 256 ∧ n < SetTable.sizeAbove n ∧ MaskQ (SetTable.sizeAbove n - 1) := by
  have := List.all_eq_true.mp sizes_ok n (List.mem_range.mpr h)
  simp only [Bool.and_eq_true, decide_eq_true_eq] at this
  exact ⟨this.1, this.2.1, maskQ_of this.2.2⟩
theorem fmap_range (es : Array (Int × Value)) : (List.range es.size).filterMap (fun i => es[i]?) = es.toList := by
  have key2 : ∀ n, n ≤ es.size → (List.range n).filterMap (fun i => es[i]?) = es.toList.take n := by
    intro n
    induction n with
    | zero => intro _; simp
    | succ n ih =>
      intro hn
      have hlt : n < es.toList.length := hn
      have e : es[n]? = some (es.toList[n]) := by rw [← Array.getElem?_toList]; exact List.getElem?_eq_getElem hlt
      rw [List.range_succ, List.filterMap_append, ih (Nat.le_of_lt hn), List.take_succ, List.getElem?_eq_getElem hlt]
      rw [List.filterMap_cons_some e] <;> rfl
  rw [key2 es.size (Nat.le_refl _)]
  exact List.take_length
theorem order_perm {es : Array (Int × Value)} {order : Array Nat} (hp : order.toList.Perm (List.range es.size)) : (order.filterMap (es[·]?)).toList.Perm es.toList := by
  rw [Array.toList_filterMap]
  have := hp.filterMap (fun i => es[i]?)
  rw [fmap_range] at this
  exact this
section
variable {P : Program} {w : World} {A : Around} {E : Value → Shared → Prop} {s : Shared} {a r o : Addr} {es er eo : Array (Int × Value)} {t tr to : SetTable}
theorem TabS.put {o' : Obj} {ep : Nat} {es' : Array (Int × Value)} {t' : SetTable} (ho : s.heap.get? a = some o') (hx : o'.ExactSet) (hd : o'.data = .set es ep t)
    (g : ∀ e ∈ es'.toList, GoodS w e) (nd : (es'.toList.map keyS).Nodup) (hb : es'.size < scanBound) (hf : t'.fits es'.size = true) (hr : Ris t'.place.toList) (hl : w.params.followText "set-order" = true ∨ t'.led = true) :
    TabS w (s.heap.update a (Obj.putSet es' t')) a es' t' := ⟨_, ep + 1, storeS_at ho hd, hx, rfl, g, nd, hb, hf, hr, hl⟩
theorem fits_of {t : SetTable} {n : Nat} (h1 : t.place.size = n) (h2 : t.dummies = #[]) (h3 : n ≤ t.mask) : t.fits n = true := by
  unfold SetTable.fits SetTable.fill
  rw [h2, Bool.and_eq_true, beq_iff_eq, decide_eq_true_eq]
  show t.place.size = n ∧ t.place.size + 0 ≤ t.mask
  omega
/-- the table laid anew -/
theorem relayS {wanted : Nat} {Q : Unit → Shared → Prop} (R : TabS w s.heap a es t) (hw : wanted < 256) (hn : es.size ≤ wanted)
    (hQ : ∀ h' es' t', Heap.SameBut a s.heap h' → TabS w h' a es' t' → es'.toList.Perm es.toList → MaskQ t'.mask → Q () { s with heap := h' }) : wpAny (model P w) A (setRelay a wanted) Q E s := by
  obtain ⟨o, ep, ho, hx, hd, g, nd, hb, hf, hr, hl⟩ := R
  obtain ⟨z1, z2, z3⟩ := sizeAbove_ok hw
  obtain ⟨t', order, e, hp, r1, r2, em, el, ep', ed⟩ := relaid_ok t (hs := es.map (·.1)) (wanted := wanted) rfl z3 (by rw [Array.size_map]; omega)
  rw [Array.size_map] at hp r2
  have pm := order_perm (es := es) hp
  have hs2 : (order.filterMap (es[·]?)).size = es.size := by
    have := pm.length_eq
    rw [Array.length_toList, Array.length_toList] at this
    exact this
  rw [setRelay_eq]
  refine wpAny_bind (wpAny_setState_of ho hd hf ?_)
  dsimp only
  refine wp_if_neg (by rw [sizeLine_eq]; omega) ?_
  try refine wpAny_bind (wpAny_pure ?_)
  rw [e]
  dsimp only
  refine wpAny_bind ?_
  refine wp_if_neg (by rw [hs2]; simp) ?_
  try refine wpAny_bind (wpAny_pure ?_)
  refine wpAny_pure ?_
  dsimp only
  refine wpAny_storeSet_of ho hd ?_ (by rw [hs2]; exact fits_of_scanBound hb)
  refine hQ _ _ t' (Heap.SameBut.update ..) (TabS.put ho hx hd (fun e he => g e (pm.mem_iff.mp he)) ((pm.map keyS).nodup_iff.mpr nd) (by rw [hs2]; exact hb) ?_ r1 (hl.imp id fun z => by rw [el]; exact z)) pm (by rw [em]; exact z3)
  rw [hs2]
  exact fits_of r2 ed (by rw [em]; omega)
theorem roomS {more : Nat} {Q : Unit → Shared → Prop} (R : TabS w s.heap a es t) (hw : (es.size + more) * 2 < 256)
    (hQ : ∀ h' es' t', Heap.SameBut a s.heap h' → TabS w h' a es' t' → es'.toList.Perm es.toList → (MaskQ t.mask → MaskQ t'.mask) → (t.roomFor more = none → t' = t ∧ es' = es) → ((t.roomFor more).isSome → es.size + more ≤ t'.mask) → Q () { s with heap := h' }) : wpAny (model P w) A (setRoomFor a more) Q E s := by
  obtain ⟨o, ep, ho, hx, hd, g, nd, hb, hf, hr, hl⟩ := id R
  have hp : t.place.size = es.size := by
    simp only [SetTable.fits, Bool.and_eq_true, beq_iff_eq] at hf
    exact hf.1
  unfold setRoomFor
  refine wpAny_bind (wpAny_setState_of ho hd hf ?_)
  dsimp only
  cases hc : t.roomFor more with
  | none => exact wpAny_pure (hQ s.heap es t (Heap.SameBut.refl a s.heap) R (List.Perm.refl _) id (fun _ => ⟨rfl, rfl⟩) (fun z => by rw [hc] at z; cases z))
  | some wanted =>
    have e : wanted = (es.size + more) * 2 := by
      unfold SetTable.roomFor at hc
      split at hc
      · rw [← Option.some.inj hc, hp]
      · cases hc
    subst e
    obtain ⟨z1, z2, z3⟩ := sizeAbove_ok hw
    obtain ⟨t', order, e, hp', r1, r2, em, el, ep', ed⟩ := relaid_ok t (hs := es.map (·.1)) (wanted := (es.size + more) * 2) rfl z3 (by rw [Array.size_map]; omega)
    rw [Array.size_map] at hp' r2
    have pm := order_perm (es := es) hp'
    have hs2 : (order.filterMap (es[·]?)).size = es.size := by
      have := pm.length_eq
      rw [Array.length_toList, Array.length_toList] at this
      exact this
    dsimp only
    rw [setRelay_eq]
    refine wpAny_bind (wpAny_setState_of ho hd hf ?_)
    dsimp only
    refine wp_if_neg (by rw [sizeLine_eq]; omega) ?_
    try refine wpAny_bind (wpAny_pure ?_)
    rw [e]
    dsimp only
    refine wpAny_bind ?_
    refine wp_if_neg (by rw [hs2]; simp) ?_
    try refine wpAny_bind (wpAny_pure ?_)
    refine wpAny_pure ?_
    dsimp only
    refine wpAny_storeSet_of ho hd ?_ (by rw [hs2]; exact fits_of_scanBound hb)
    refine hQ _ _ t' (Heap.SameBut.update ..) (TabS.put ho hx hd (fun e he => g e (pm.mem_iff.mp he)) ((pm.map keyS).nodup_iff.mpr nd) (by rw [hs2]; exact hb) ?_ r1 (hl.imp id fun z => by rw [el]; exact z)) pm (fun _ => by rw [em]; exact z3) (fun z => by rw [hc] at z; cases z) (fun _ => by rw [em]; omega)
    rw [hs2]
    exact fits_of r2 ed (by rw [em]; omega)
/-! ### the walk of a set into another -/
theorem quietS {l : List Addr} {Q : Bool → Shared → Prop} (hl : ∀ b ∈ l, ∃ es t, TabS w s.heap b es t) (h : Q true s) : wpAny (model P w) A (setsQuiet l) Q E s := by
  unfold setsQuiet
  refine wpAny_bind (wpAny_forIn_list _ (fun rest b s' => b.1 = none ∧ s' = s ∧ ∀ c ∈ rest, ∃ es t, TabS w s.heap c es t) _ ?_ ?_ l _ ⟨rfl, rfl, hl⟩)
  · rintro c rest b s' ⟨hb, rfl, hr⟩
    obtain ⟨es, t, o, ep, ho, hx, hd, g, nd, hb', hf, _⟩ := hr c List.mem_cons_self
    refine wpAny_bind (wpAny_setEntries_of ho hd hf ?_)
    refine wpAny_bind (MeetsSeq2.wpAny_forIn_array _ (fun rest b s2 => b.1 = none ∧ s2 = s' ∧ ∀ e ∈ rest, GoodS w e) _ ?_ ?_ es _ ⟨rfl, rfl, g⟩)
    · rintro e r2 b2 s2 ⟨hb2, rfl, hg⟩
      obtain ⟨k, tk, h1, _⟩ := hg e List.mem_cons_self
      obtain ⟨hh, x⟩ := e
      dsimp only at h1
      subst h1
      dsimp only
      first
        | exact wpAny_pure ⟨rfl, rfl, fun e he => hg e (List.mem_cons_of_mem _ he)⟩
        | exact wpAny_bind (wpAny_pure (wpAny_pure ⟨rfl, rfl, fun e he => hg e (List.mem_cons_of_mem _ he)⟩))
    · rintro b2 s2 ⟨hb2, rfl, _⟩
      dsimp only
      rw [hb2]
      exact wpAny_pure ⟨rfl, rfl, fun c hc => hr c (List.mem_cons_of_mem _ hc)⟩
  · rintro b s' ⟨hb, rfl, _⟩
    dsimp only
    rw [hb]
    exact wpAny_pure h
theorem walkS {Q : Array (Int × Value) → Shared → Prop} (R : TabS w s.heap a es t) (hc : w.params.followText "set-order" = true ∨ (t.led = true ∧ t.plain = true) ∨ es.size ≤ 1)
    (hQ : ∀ out : Array (Int × Value), out.toList.Perm es.toList → Q out s) : wpAny (model P w) A (setWalk a) Q E s := by
  obtain ⟨o, ep, ho, hx, hd, g, nd, hb, hf, hr, hl⟩ := R
  unfold setWalk
  refine wpAny_bind (wpAny_setState_of ho hd hf ?_)
  dsimp only
  refine wpAny_bind (wpAny_byText ?_)
  cases hbt : w.params.followText "set-order" with
  | true =>
    refine wp_if_pos rfl ?_
    exact wpAny_bind (wpAny_askSetting (wpAny_pure (hQ _ (pick_perm _ _))))
  | false =>
    refine wp_if_neg Bool.false_ne_true ?_
    try refine wpAny_bind (wpAny_pure ?_)
    have hc' : (t.led = true ∧ t.plain = true) ∨ es.size ≤ 1 := hc.resolve_left (by rw [hbt]; exact Bool.false_ne_true)
    have hdr : (!t.plain && decide (es.size > 1)) = false := by
      rcases hc' with ⟨_, e⟩ | e
      · rw [e]; rfl
      · rw [decide_eq_false (by omega), Bool.and_false]
    refine wp_if_neg (by show ¬ ((!t.plain && decide (es.size > 1)) = true); rw [hdr]; exact Bool.false_ne_true) ?_
    try refine wpAny_bind (wpAny_pure ?_)
    refine wpAny_bind (wpAny_of_eq (a := ()) ?_ ?_)
    · show (if (!t.led && decide (es.size > 1)) = true then unsupported "set:maker-not-led" else pure ()) = pure ()
      rw [if_neg]
      rcases hc' with ⟨e, _⟩ | e
      · rw [e]; simp
      · rw [decide_eq_false (by omega), Bool.and_false]; exact Bool.false_ne_true
    · exact wpAny_pure (hQ _ (List.Perm.refl _))
theorem walkUnseenS {Q : Array (Int × Value) → Shared → Prop} (R : TabS w s.heap r er tr) (T : TabS w s.heap o eo to) (ne : r ≠ o)
    (hQ : ∀ (out : Array (Int × Value)) h' tr', out.toList.Perm eo.toList → Heap.SameBut r s.heap h' → TabS w h' r er tr' → Q out { s with heap := h' }) : wpAny (model P w) A (setWalkUnseen o [r] (some r)) Q E s := by
  obtain ⟨oo, epo, hoo, hxo, hdo, go, ndo, hbo, hfo, hro, hlo⟩ := id T
  unfold setWalkUnseen
  refine wpAny_bind (wpAny_setState_of hoo hdo hfo ?_)
  dsimp only
  refine wpAny_bind (wpAny_byText ?_)
  split
  · rename_i hc
    simp only [Bool.or_eq_true, Bool.and_eq_true, decide_eq_true_eq] at hc
    refine walkS T ?_ fun out p => hQ out s.heap tr p (Heap.SameBut.refl r s.heap) R
    rcases hc with (hc | hc) | hc
    · exact .inl hc
    · exact .inr (.inl hc)
    · exact .inr (.inr hc)
  · try refine wpAny_bind (wpAny_pure ?_)
    refine wpAny_bind (quietS (fun b hb => ?_) ?_)
    · rcases List.mem_cons.mp hb with e | e
      · subst e; exact ⟨_, _, T⟩
      · obtain rfl := List.mem_singleton.mp e
        exact ⟨_, _, R⟩
    refine wp_if_neg (by simp) ?_
    try refine wpAny_bind (wpAny_pure ?_)
    refine wpAny_bind (wpAny_rule ?_)
    obtain ⟨orr, epr, hor, hxr, hdr, gr, ndr, hbr, hfr, hrr, hlr⟩ := id R
    refine wpAny_bind (wpAny_setState_of hor hdr hfr ?_)
    dsimp only
    split
    · refine wpAny_bind (wpAny_storeSet_of hor hdr ?_ (fits_of_scanBound hbr))
      refine wpAny_pure (hQ eo _ _ (List.Perm.refl _) (Heap.SameBut.update ..) (TabS.put hor hxr hdr gr ndr hbr hfr hrr ?_))
      rcases hlr with z | z
      · exact .inl z
      · rcases hlo with z2 | z2
        · exact .inl z2
        · exact .inr (by show (tr.led && to.led) = true; rw [z, z2]; rfl)
    · first
        | exact wpAny_pure (hQ eo s.heap tr (List.Perm.refl _) (Heap.SameBut.refl r s.heap) R)
        | exact wpAny_bind (wpAny_pure (wpAny_pure (hQ eo s.heap tr (List.Perm.refl _) (Heap.SameBut.refl r s.heap) R)))
end
end TX
set_option Elab.async false
set_option linter.all false
set_option maxRecDepth 100000
set_option maxHeartbeats 2000000
namespace TX
open PySem PySem.Spec PyProof.Rows L2
theorem laid_ok {m f mv : Nat} {led plain : Bool} {hs : Array Int} (hM : MaskQ m) (hn : hs.size ≤ m) :
    ∃ t' order, SetTable.laid m f mv led plain hs = some (t', order) ∧ order.toList.Perm (List.range hs.size) ∧ Ris t'.place.toList ∧ t'.place.size = hs.size ∧ t'.mask = m ∧ t'.led = led ∧ t'.dummies = #[] := by
  obtain ⟨owner, e, _⟩ := layClean_ok hM hn
  have h1 : SetTable.laid m f mv led plain hs = some ({ mask := m, place := ((liveOf m owner).map (·.1)).toArray, dummies := #[], finger := f, led, moves := mv, plain }, ((liveOf m owner).map (·.2)).toArray) := by
    show (SetTable.layClean m hs).bind _ = _
    rw [e]
    rfl
  have hw : SetTable.sizeAbove m - 1 = m := by
    rcases hM with e | e | e | e | e | e <;> subst e <;> decide +kernel
  obtain ⟨t', order, e2, q1, q2, q3, q4, q5, q6, q7⟩ := relaid_ok (SetTable.fresh 0 0 true) (wanted := m) hw hM hn
  have h2 : (SetTable.fresh 0 0 true).relaid hs m = some (tabOf (SetTable.fresh 0 0 true) m owner, ((liveOf m owner).map (·.2)).toArray) := by
    rw [relaid_eq, hw, e]
    rfl
  rw [h2] at e2
  obtain ⟨e3, e4⟩ := Prod.mk.inj (Option.some.inj e2)
  subst e3 e4
  exact ⟨_, _, h1, q1, q2, q3, rfl, rfl, rfl⟩
theorem setMerge_eq (s o : Addr) (each : Sem Unit) : setMerge s o each = (do
    if s == o then return
    let (eo, epoch, to) ← setState o
    if eo.isEmpty then return
    setRoomFor s eo.size
    let (_, _, ts) ← setState s
    match ts.road to with
    | .slotForSlot => storeSet s eo { to with finger := ts.finger, led := ts.led && to.led, moves := ts.moves, plain := ts.plain && to.plain }
    | .clean =>
      let (es, t) ← (do
        let some (t, order) := SetTable.laid ts.mask ts.finger ts.moves (led := ts.led && to.led) (plain := ts.plain && to.plain) (eo.map (·.1)) | unsupported "internal:set-table-without-room"
        let es' := order.filterMap (eo[·]?)
        if es'.size != eo.size then unsupported "internal:set-table-lost-an-element"
        pure (es', t) : Sem (Array (Int × Value) × SetTable))
      storeSet s es t
    | .oneByOne =>
      for (h, x) in ← setWalkUnseen o [s] (some s) do
        let _ ← holding [x] (setAddHashed s x h)
        each
        if (← setState o).2.1 != epoch then unsupported "set.changed-during-merge") := by rfl
section
variable {P : Program} {w : World} {A : Around} {E : Value → Shared → Prop} {s : Shared} {a r o : Addr} {es er eo : Array (Int × Value)} {t tr to : SetTable}
theorem TabS.place (R : TabS w s.heap a es t) : t.place.size = es.size := by
  obtain ⟨o, ep, ho, hx, hd, g, nd, hb, hf, hr, hl⟩ := R
  simp only [SetTable.fits, Bool.and_eq_true, beq_iff_eq] at hf
  exact hf.1
theorem TabS.good (R : TabS w s.heap a es t) : ∀ e ∈ es.toList, GoodS w e := by
  obtain ⟨o, ep, ho, hx, hd, g, _⟩ := R
  exact g
theorem nil_of {es : Array (Int × Value)} (h : es.size = 0) : es.toList = [] := by
  have : es.toList.length = 0 := h
  exact List.length_eq_zero_iff.mp this
/-- r takes in what o has -/
theorem mergeS {each : Sem Unit} {Q : Unit → Shared → Prop} (R : TabS w s.heap r er tr) (T : TabS w s.heap o eo to) (ne : r ≠ o) (hm : er.size = 0 → MaskQ tr.mask) (few : (er.size + eo.size) * 2 < 256)
    (hE : ∀ (s1 : Shared) (Q1 : Unit → Shared → Prop), s1.heap.get? o = s.heap.get? o → Q1 () s1 → wpAny (model P w) A each Q1 E s1)
    (hQ : ∀ h' er' tr', Heap.SameBut r s.heap h' → TabS w h' r er' tr' → (∀ k, k ∈ er'.toList.map keyS ↔ k ∈ er.toList.map keyS ∨ k ∈ eo.toList.map keyS) → (er'.size = 0 → MaskQ tr'.mask) → er'.size ≤ er.size + eo.size → Q () { s with heap := h' }) :
    wpAny (model P w) A (setMerge r o each) Q E s := by
  obtain ⟨oo, epo, hoo, hxo, hdo, go, ndo, hbo, hfo, hro, hlo⟩ := id T
  rw [setMerge_eq]
  refine wp_if_neg (by simpa using ne) ?_
  try refine wpAny_bind (wpAny_pure ?_)
  refine wpAny_bind (wpAny_setState_of hoo hdo hfo ?_)
  dsimp only
  by_cases hemp : eo.isEmpty = true
  · refine wp_if_pos hemp ?_
    have z : eo.size = 0 := by simpa using hemp
    exact wpAny_pure (hQ s.heap er tr (Heap.SameBut.refl r s.heap) R (fun k => by rw [nil_of z]; simp) hm (by omega))
  refine wp_if_neg hemp ?_
  try refine wpAny_bind (wpAny_pure ?_)
  have hpos : 0 < eo.size := by
    rcases Nat.eq_zero_or_pos eo.size with z | z
    · exact absurd (by simpa using z) hemp
    · exact z
  refine wpAny_bind (roomS R few fun h1 er1 tr1 sb1 R1 pm1 mq1 nq1 bq1 => ?_)
  have T1 : TabS w h1 o eo to := T.at fun u e => (sb1.2 o (Ne.symm ne)).trans e
  have T1' := T1
  obtain ⟨o1, ep1, ho1, hx1, hd1, g1, nd1, hb1, hf1, hr1, hl1⟩ := id R1
  have pl1 := TabS.place (s := { s with heap := h1 }) R1
  have sz1 : er1.size = er.size := by
    have := pm1.length_eq
    rw [Array.length_toList, Array.length_toList] at this
    exact this
  have mem1 : ∀ k, k ∈ er1.toList.map keyS ↔ k ∈ er.toList.map keyS := fun k => (pm1.map keyS).mem_iff
  refine wpAny_bind (wpAny_setState_of (s := { s with heap := h1 }) ho1 hd1 hf1 ?_)
  dsimp only
  have hfill : tr1.fill = 0 → er1.size = 0 := fun z => by
    unfold SetTable.fill at z
    omega
  have led2 : w.params.followText "set-order" = true ∨ (tr1.led && to.led) = true := by
    rcases hl1 with z | z
    · exact .inl z
    · rcases hlo with z2 | z2
      · exact .inl z2
      · exact .inr (by rw [z, z2]; rfl)
  cases hroad : tr1.road to with
  | slotForSlot =>
    dsimp only
    have hz : er1.size = 0 := by
      unfold SetTable.road at hroad
      split at hroad
      · cases hroad
      · rename_i h; exact hfill (by simpa using h)
    have hmk : tr1.mask = to.mask := by
      unfold SetTable.road at hroad
      split at hroad
      · cases hroad
      · split at hroad
        · rename_i h; simp only [Bool.and_eq_true, beq_iff_eq] at h; exact h.1
        · cases hroad
    refine wpAny_storeSet_of (s := { s with heap := h1 }) ho1 hd1 ?_ (fits_of_scanBound hbo)
    refine hQ _ eo _ (sb1.trans (Heap.SameBut.update _ r _)) (TabS.put (s := { s with heap := h1 }) ho1 hx1 hd1 go ndo hbo hfo hro led2) (fun k => ?_) (fun z => by omega) (by omega)
    rw [← mem1, nil_of hz]
    simp
  | clean =>
    dsimp only
    have hz : er1.size = 0 := by
      unfold SetTable.road at hroad
      split at hroad
      · cases hroad
      · rename_i h; exact hfill (by simpa using h)
    have mq : MaskQ tr1.mask := mq1 (hm (by omega))
    have hle : eo.size ≤ tr1.mask := by
      cases hc : tr.roomFor eo.size with
      | none =>
        obtain ⟨e1, e2⟩ := nq1 hc
        subst e1 e2
        unfold SetTable.roomFor at hc
        split at hc
        · cases hc
        · rename_i h
          simp only [ge_iff_le, Nat.not_le] at h
          omega
      | some v =>
        have := bq1 (by rw [hc]; rfl)
        omega
    obtain ⟨t', order, e, q1, q2, q3, q4, q5, q7⟩ := laid_ok (f := tr1.finger) (mv := tr1.moves) (led := tr1.led && to.led) (plain := tr1.plain && to.plain) (hs := eo.map (·.1)) mq (by rw [Array.size_map]; exact hle)
    rw [Array.size_map] at q1 q3
    have pm := order_perm (es := eo) q1
    have hs2 : (order.filterMap (eo[·]?)).size = eo.size := by
      have := pm.length_eq
      rw [Array.length_toList, Array.length_toList] at this
      exact this
    rw [e]
    dsimp only
    refine wpAny_bind ?_
    refine wp_if_neg (by rw [hs2]; simp) ?_
    try refine wpAny_bind (wpAny_pure ?_)
    refine wpAny_pure ?_
    dsimp only
    refine wpAny_storeSet_of (s := { s with heap := h1 }) ho1 hd1 ?_ (by rw [hs2]; exact fits_of_scanBound hbo)
    refine hQ _ _ t' (sb1.trans (Heap.SameBut.update _ r _)) (TabS.put (s := { s with heap := h1 }) ho1 hx1 hd1 (fun e he => go e (pm.mem_iff.mp he)) ((pm.map keyS).nodup_iff.mpr ndo) (by rw [hs2]; exact hbo) ?_ q2 (led2.imp id fun z => by rw [q5]; exact z)) (fun k => ?_) (fun z => by omega) (by omega)
    · rw [hs2]
      exact fits_of q3 q7 (by rw [q4]; exact hle)
    · rw [← mem1, nil_of hz, (pm.map keyS).mem_iff]
      simp
  | oneByOne =>
    dsimp only
    refine wpAny_bind (walkUnseenS (s := { s with heap := h1 }) R1 T1 ne fun out h2 tr2 po sb2 R2 => ?_)
    have sb12 := sb1.trans sb2
    refine wpAny_bind (MeetsSeq2.wpAny_forIn_array _ (fun rest _ s' => ∃ h' er' tr', s' = { s with heap := h' } ∧ Heap.SameBut r s.heap h' ∧ TabS w h' r er' tr' ∧ er'.size + rest.length ≤ er.size + eo.size ∧ (rest = [] ∨ True) ∧ (er'.size = 0 → rest ≠ []) ∧
      (∀ k, k ∈ er'.toList.map keyS ∨ k ∈ rest.map keyS ↔ k ∈ er.toList.map keyS ∨ k ∈ eo.toList.map keyS) ∧ (∀ e ∈ rest, GoodS w e)) _ ?_ ?_ out _ ⟨h2, er1, tr2, rfl, sb12, R2, ?_, .inr trivial, fun _ z => ?_, fun k => ?_, fun e he => go e (po.mem_iff.mp he)⟩)
    · rintro e rest b s' ⟨h3, er3, tr3, rfl, sb3, R3, hl3, _, _, mem3, g3⟩
      obtain ⟨k, tk, he1, he2⟩ := g3 e List.mem_cons_self
      obtain ⟨hh, x⟩ := e
      dsimp only at he1 he2
      subst he1 he2
      dsimp only
      have S3 := TabS.setS (S := fun k => decide (k ∈ er3.toList.map keyS)) R3 (fun k => by rw [decide_eq_true_eq])
      simp only [List.length_cons] at hl3
      refine wpAny_bind (wpAny_holding (setS_add_hashed (P := P) (s := { s with heap := h3 }) S3 (by unfold scanBound; omega) fun h4 sb4 S4 => ?_))
      have sb34 := sb3.trans sb4
      refine wpAny_bind (hE { s with heap := h4 } _ (sb34.2 o (Ne.symm ne)) ?_)
      have ho4 : h4.get? o = some oo := (sb34.2 o (Ne.symm ne)).trans hoo
      refine wpAny_bind (wpAny_setState_of (s := { s with heap := h4 }) ho4 hdo hfo ?_)
      dsimp only
      refine wp_if_neg (by simp) ?_
      try refine wpAny_bind (wpAny_pure ?_)
      obtain ⟨er4, tr4, R4, m4, n4⟩ := S4.tab
      refine wpAny_pure ⟨h4, er4, tr4, rfl, sb34, R4, ?_, .inr trivial, fun z => ?_, fun k' => ?_, fun e he => g3 e (List.mem_cons_of_mem _ he)⟩
      · rw [n4]
        split <;> omega
      · exfalso
        have := (m4 k).mp (by simp)
        rw [nil_of z] at this
        simp at this
      · rw [← mem3 k', ← m4 k']
        simp only [Bool.or_eq_true, decide_eq_true_eq, List.map_cons, List.mem_cons]
        have ek : keyS (hashStr w k, Value.str k tk) = k := rfl
        rw [ek]
        constructor
        · rintro ((h | h) | h)
          · exact .inl h
          · exact .inr (.inl h)
          · exact .inr (.inr h)
        · rintro (h | h | h)
          · exact .inl (.inl h)
          · exact .inl (.inr h)
          · exact .inr h
    · rintro b s' ⟨h3, er3, tr3, rfl, sb3, R3, hl3, _, nz3, mem3, g3⟩
      exact wpAny_pure (hQ h3 er3 tr3 sb3 R3 (fun k => by rw [← mem3 k]; simp) (fun z => absurd rfl (nz3 z)) (by simpa using hl3))
    · rw [po.length_eq, Array.length_toList]
      omega
    · have := po.length_eq
      rw [z] at this
      simp at this
      omega
    · rw [mem1, (po.map keyS).mem_iff]
end
end TX
set_option Elab.async false
set_option linter.all false
set_option maxRecDepth 100000
set_option maxHeartbeats 2000000
namespace TX
open PySem PySem.Spec PyProof.Rows L2
section
variable {prog : Program} {w : World} {A : Around} {E : Value → Shared → Prop} {s : Shared}
set_option maxHeartbeats 3200000 in
theorem call_set_listS {l : Addr} {items : Array Value} {xs : List Str} {Q : Value → Shared → Prop}
    (hh : A.handled = none) (hl : s.heap.IsList l items) (hi : PyProof.Rows.StrsAre items.toList xs) (hb : items.size + 1 < scanBound)
    (h : ∀ (h' : Heap) (tk : Nat), SetS w h' s.heap.objs.size (fun k' => decide (k' ∈ xs)) (canon xs).length →
      (∀ b o, b < s.heap.objs.size → s.heap.get? b = some o → h'.get? b = some o) → Q (.ref s.heap.objs.size) { s with heap := h', toks := tk }) :
    wpAny (model prog w) A (call (.type "set") [.ref l]) Q E s := by
  obtain ⟨c, tl, hmro⟩ := PySem.F.called_set.mro
  have hmade := PySem.F.called_set.made
  have hsub := PySem.F.called_set.sub
  refine wpAny_call (codeAny_of_tree ?_)
  show wpAny _ _ (callAny (.type "set") _) _ _ _
  refine wpAny_pure ⟨Code.quiet_builtin _ (by decide +kernel), codeAny_builtin PySem.F.entry_type_call ?_⟩
  rw [Around.under_plain (weight_type_call_type "set" [.ref l] []) rfl]
  have h1 := PySem.F.called_set.notType
  have h2 := PySem.F.called_set.canCreate
  have hct := PySem.F.typeCall_set_1 (.ref l)
  repeat (any_goals (first | assumption | wp_step))

  refine codeAny_mono (code_set_led1 (.ref l) (E := E) (Q₁ := fun obj s₁ => ∃ led : Bool, led = (!w.params.followText "set-order") ∧ obj = .ref s.heap.objs.size ∧ s₁ = { s with heap := s.heap.push { cls := .type "set", dict := none, data := .set #[] 0 (.fresh 0 0 led) } }) ⟨_, rfl, rfl, rfl⟩) fun r s₁ hr => ?_
  cases r with
  | error e => exact hr
  | ok fl =>
    cases fl with
    | ret obj =>
      obtain ⟨led, hled, rfl, rfl⟩ := hr
      have hS : (s.heap.push { cls := .type "set", dict := none, data := .set #[] 0 (.fresh 0 0 led) }).get? s.heap.objs.size = some { cls := .type "set", dict := none, data := .set #[] 0 (.fresh 0 0 led) } := Heap.get?_push_size _ rfl
      have hT : Shared.TypeIs { s with heap := s.heap.push { cls := .type "set", dict := none, data := .set #[] 0 (.fresh 0 0 led) } } (.ref s.heap.objs.size) "set" := ⟨_, hS, rfl⟩
      have hli := PySem.F.called_set.init.lookup
      have hbi := PySem.F.called_set.init.bind (.ref s.heap.objs.size)
      repeat (any_goals (first | assumption | wp_step))

      refine codeAny_mono (codeAny_call_builtin (R := wants (fun r s₂ => r = .none ∧ ∃ h' tk, s₂ = { s with heap := h', toks := tk } ∧
          SetS w h' s.heap.objs.size (fun k' => decide (k' ∈ xs)) (canon xs).length ∧
          (∀ b o, b < s.heap.objs.size → s.heap.get? b = some o → h'.get? b = some o)) E) PySem.F.called_set.init.plain PySem.F.entry_set_init (check_set_init_1 hT ?_)) fun r₂ s₂ hr₂ => ?_
      · obtain ⟨ol, hol, hcl, nl, hdl⟩ := hl
        obtain ⟨ocls, odict, odata, oslots⟩ := ol
        simp only at hcl hdl
        subst hcl; subst hdl
        have hol' : (s.heap.push { cls := .type "set", dict := none, data := .set #[] 0 (.fresh 0 0 led) }).get? l = some { cls := .type "list", dict := odict, data := .seq items nl, slots := oslots } := Heap.get?_push_of_some _ hol
        have hsls := PySem.F.sub_list_set
        have hslf := PySem.F.sub_list_frozenset
        have hne : (Value.type "list" == Value.type "dict") = false := by decide
        have hl1 : (s.heap.push { cls := .type "set", dict := none, data := .set #[] 0 (.fresh 0 0 led) }).IsList l items := ⟨_, hol', rfl, nl, rfl⟩
        unfold Builtin.«set.__init__» noKeywords Builtin.Frozenset.updateFrom
        generalize hPI : pyIter = PI
        wp_walk
        subst hPI

        refine wpAny_pyIter_list hl1 ?_
        refine wpAny_bind (wpAny_runValue ?_)
        have hlS : l < s.heap.objs.size := Heap.lt_size hol
        have hh3 : A.in1.in1.in1.handled = none := by simp [hh]
        have hneI : l ≠ (s.heap.push { cls := .type "set", dict := none, data := .set #[] 0 (.fresh 0 0 led) }).objs.size := by
          rw [Heap.size_push]; exact Nat.ne_of_lt (Nat.lt_succ_of_lt hlS)
        have hSf : s.heap.objs.size ∉ [(s.heap.push { cls := .type "set", dict := none, data := .set #[] 0 (.fresh 0 0 led) }).objs.size, l] := by
          rw [Heap.size_push]; simp only [List.mem_cons, List.mem_singleton, List.not_mem_nil, or_false, not_or]
          exact ⟨Nat.ne_of_lt (Nat.lt_succ_self _), Nat.ne_of_gt hlS⟩
        have hsz : xs.length = items.size := by rw [← StrsAre.len_eq hi, Array.length_toList]
        have hval : ∀ (i : Nat) (v : Value), items[i]? = some v → ∃ t, v = .str (xs.getD i Str.empty) t := fun i v hv => SS.strs_at hi i v (by rw [Array.getElem?_toList]; exact hv)
        refine loopTx ((Walks.list hh3 _ l hneI items).toS) s.heap.objs.size
          hSf xs hsz hb hval (items.size - 0) 0 _ (by omega) (Nat.zero_le _)
          ⟨⟨_, Heap.get?_push_size _ rfl, rfl, rfl⟩, (hl1.push _)⟩ ?hS0 ?hR
        case hS0 =>
          have hget : ((s.heap.push { cls := .type "set", dict := none, data := .set #[] 0 (.fresh 0 0 led) }).push { cls := .type "list_iterator", data := .fields #[.ref l, .int 0 0] }).get? s.heap.objs.size
              = some { cls := .type "set", dict := none, data := .set #[] 0 (.fresh 0 0 led) } := Heap.get?_push_of_some _ hS
          exact ⟨0, Nat.le_refl _, (setS_at0 hled hget).congr fun k => by simp⟩
        case hR =>
          intro s' hm ⟨nn, hnn, hS0⟩
          have hS' := SetS.canon hS0 (by rw [← hsz, List.take_length])
          obtain ⟨h', g', d', tk', os'⟩ := s'
          have eg : g' = s.gens := hm.gens
          have ed : d' = s.drawn := hm.drawn
          have eo : os' = s.os := hm.os
          subst eg; subst ed; subst eo
          show wpAny _ _ _ _ _ _
          refine wpAny_pure ?_
          show wpAny _ _ (ret Value.none) _ _ _
          refine wpAny_pure ⟨rfl, h', tk', rfl, hS', fun b o hb e => ?_⟩
          have hb1 : b ≠ s.heap.objs.size := Nat.ne_of_lt hb
          have hb2 : b ≠ (s.heap.push { cls := .type "set", dict := none, data := .set #[] 0 (.fresh 0 0 led) }).objs.size := by
            rw [Heap.size_push]; exact Nat.ne_of_lt (Nat.lt_succ_of_lt hb)
          exact hm.heap b o (by simp only [List.mem_cons, List.mem_singleton, List.not_mem_nil, or_false, not_or]; exact ⟨hb1, hb2⟩) (Heap.get?_push_of_some _ (Heap.get?_push_of_some _ e))

      · cases r₂ with
        | error e => exact hr₂
        | ok fl₂ =>
          cases fl₂ with
          | ret r =>
            obtain ⟨rfl, h', tk, rfl, hS', hk'⟩ := hr₂
            repeat (any_goals (first | assumption | wp_step))
            exact h _ _ hS' hk'
          | _ => exact hr₂.elim
    | _ => exact hr.elim

set_option maxHeartbeats 3200000 in
theorem call_set_tupleS {l : Addr} {items : Array Value} {xs : List Str} {Q : Value → Shared → Prop}
    (hh : A.handled = none) (hl : s.heap.IsTuple l items) (hi : PyProof.Rows.StrsAre items.toList xs) (hb : items.size + 1 < scanBound)
    (h : ∀ (h' : Heap) (tk : Nat), SetS w h' s.heap.objs.size (fun k' => decide (k' ∈ xs)) (canon xs).length →
      (∀ b o, b < s.heap.objs.size → s.heap.get? b = some o → h'.get? b = some o) → Q (.ref s.heap.objs.size) { s with heap := h', toks := tk }) :
    wpAny (model prog w) A (call (.type "set") [.ref l]) Q E s := by
  obtain ⟨c, tl, hmro⟩ := PySem.F.called_set.mro
  have hmade := PySem.F.called_set.made
  have hsub := PySem.F.called_set.sub
  refine wpAny_call (codeAny_of_tree ?_)
  show wpAny _ _ (callAny (.type "set") _) _ _ _
  refine wpAny_pure ⟨Code.quiet_builtin _ (by decide +kernel), codeAny_builtin PySem.F.entry_type_call ?_⟩
  rw [Around.under_plain (weight_type_call_type "set" [.ref l] []) rfl]
  have h1 := PySem.F.called_set.notType
  have h2 := PySem.F.called_set.canCreate
  have hct := PySem.F.typeCall_set_1 (.ref l)
  repeat (any_goals (first | assumption | wp_step))

  refine codeAny_mono (code_set_led1 (.ref l) (E := E) (Q₁ := fun obj s₁ => ∃ led : Bool, led = (!w.params.followText "set-order") ∧ obj = .ref s.heap.objs.size ∧ s₁ = { s with heap := s.heap.push { cls := .type "set", dict := none, data := .set #[] 0 (.fresh 0 0 led) } }) ⟨_, rfl, rfl, rfl⟩) fun r s₁ hr => ?_
  cases r with
  | error e => exact hr
  | ok fl =>
    cases fl with
    | ret obj =>
      obtain ⟨led, hled, rfl, rfl⟩ := hr
      have hS : (s.heap.push { cls := .type "set", dict := none, data := .set #[] 0 (.fresh 0 0 led) }).get? s.heap.objs.size = some { cls := .type "set", dict := none, data := .set #[] 0 (.fresh 0 0 led) } := Heap.get?_push_size _ rfl
      have hT : Shared.TypeIs { s with heap := s.heap.push { cls := .type "set", dict := none, data := .set #[] 0 (.fresh 0 0 led) } } (.ref s.heap.objs.size) "set" := ⟨_, hS, rfl⟩
      have hli := PySem.F.called_set.init.lookup
      have hbi := PySem.F.called_set.init.bind (.ref s.heap.objs.size)
      repeat (any_goals (first | assumption | wp_step))

      refine codeAny_mono (codeAny_call_builtin (R := wants (fun r s₂ => r = .none ∧ ∃ h' tk, s₂ = { s with heap := h', toks := tk } ∧
          SetS w h' s.heap.objs.size (fun k' => decide (k' ∈ xs)) (canon xs).length ∧
          (∀ b o, b < s.heap.objs.size → s.heap.get? b = some o → h'.get? b = some o)) E) PySem.F.called_set.init.plain PySem.F.entry_set_init (check_set_init_1 hT ?_)) fun r₂ s₂ hr₂ => ?_
      · obtain ⟨ol, hol, hcl, nl, hdl⟩ := hl
        obtain ⟨ocls, odict, odata, oslots⟩ := ol
        simp only at hcl hdl
        subst hcl; subst hdl
        have hol' : (s.heap.push { cls := .type "set", dict := none, data := .set #[] 0 (.fresh 0 0 led) }).get? l = some { cls := .type "tuple", dict := odict, data := .seq items nl, slots := oslots } := Heap.get?_push_of_some _ hol
        have hsls := PySem.F.sub_tuple_set
        have hslf := PySem.F.sub_tuple_frozenset
        have hne : (Value.type "tuple" == Value.type "dict") = false := by decide
        have hl1 : (s.heap.push { cls := .type "set", dict := none, data := .set #[] 0 (.fresh 0 0 led) }).IsTuple l items := ⟨_, hol', rfl, nl, rfl⟩
        unfold Builtin.«set.__init__» noKeywords Builtin.Frozenset.updateFrom
        generalize hPI : pyIter = PI
        wp_walk
        subst hPI

        refine wpAny_pyIter_tuple hl1 ?_
        refine wpAny_bind (wpAny_runValue ?_)
        have hlS : l < s.heap.objs.size := Heap.lt_size hol
        have hh3 : A.in1.in1.in1.handled = none := by simp [hh]
        have hneI : l ≠ (s.heap.push { cls := .type "set", dict := none, data := .set #[] 0 (.fresh 0 0 led) }).objs.size := by
          rw [Heap.size_push]; exact Nat.ne_of_lt (Nat.lt_succ_of_lt hlS)
        have hSf : s.heap.objs.size ∉ [(s.heap.push { cls := .type "set", dict := none, data := .set #[] 0 (.fresh 0 0 led) }).objs.size, l] := by
          rw [Heap.size_push]; simp only [List.mem_cons, List.mem_singleton, List.not_mem_nil, or_false, not_or]
          exact ⟨Nat.ne_of_lt (Nat.lt_succ_self _), Nat.ne_of_gt hlS⟩
        have hsz : xs.length = items.size := by rw [← StrsAre.len_eq hi, Array.length_toList]
        have hval : ∀ (i : Nat) (v : Value), items[i]? = some v → ∃ t, v = .str (xs.getD i Str.empty) t := fun i v hv => SS.strs_at hi i v (by rw [Array.getElem?_toList]; exact hv)
        refine loopTx ((Walks.tuple hh3 _ l hneI items).toS) s.heap.objs.size
          hSf xs hsz hb hval (items.size - 0) 0 _ (by omega) (Nat.zero_le _)
          ⟨⟨_, Heap.get?_push_size _ rfl, rfl, rfl⟩, (hl1.push _)⟩ ?hS0 ?hR
        case hS0 =>
          have hget : ((s.heap.push { cls := .type "set", dict := none, data := .set #[] 0 (.fresh 0 0 led) }).push { cls := .type "tuple_iterator", data := .fields #[.ref l, .int 0 0] }).get? s.heap.objs.size
              = some { cls := .type "set", dict := none, data := .set #[] 0 (.fresh 0 0 led) } := Heap.get?_push_of_some _ hS
          exact ⟨0, Nat.le_refl _, (setS_at0 hled hget).congr fun k => by simp⟩
        case hR =>
          intro s' hm ⟨nn, hnn, hS0⟩
          have hS' := SetS.canon hS0 (by rw [← hsz, List.take_length])
          obtain ⟨h', g', d', tk', os'⟩ := s'
          have eg : g' = s.gens := hm.gens
          have ed : d' = s.drawn := hm.drawn
          have eo : os' = s.os := hm.os
          subst eg; subst ed; subst eo
          show wpAny _ _ _ _ _ _
          refine wpAny_pure ?_
          show wpAny _ _ (ret Value.none) _ _ _
          refine wpAny_pure ⟨rfl, h', tk', rfl, hS', fun b o hb e => ?_⟩
          have hb1 : b ≠ s.heap.objs.size := Nat.ne_of_lt hb
          have hb2 : b ≠ (s.heap.push { cls := .type "set", dict := none, data := .set #[] 0 (.fresh 0 0 led) }).objs.size := by
            rw [Heap.size_push]; exact Nat.ne_of_lt (Nat.lt_succ_of_lt hb)
          exact hm.heap b o (by simp only [List.mem_cons, List.mem_singleton, List.not_mem_nil, or_false, not_or]; exact ⟨hb1, hb2⟩) (Heap.get?_push_of_some _ (Heap.get?_push_of_some _ e))

      · cases r₂ with
        | error e => exact hr₂
        | ok fl₂ =>
          cases fl₂ with
          | ret r =>
            obtain ⟨rfl, h', tk, rfl, hS', hk'⟩ := hr₂
            repeat (any_goals (first | assumption | wp_step))
            exact h _ _ hS' hk'
          | _ => exact hr₂.elim
    | _ => exact hr.elim

end
end TX
set_option Elab.async false
set_option linter.all false
set_option maxRecDepth 100000
set_option maxHeartbeats 2000000
namespace TX
open PySem PySem.Spec PyProof.Rows L2
theorem entry_set_or : entryFor table "set.__or__" = some Builtin.«frozenset.__or__» :=
  entryFor_alias (id' := "frozenset.__or__") (by kernel_rfl) rfl (by decide +kernel) (by kernel_rfl)
/-- the set of the texts L -/
def SetC (w : World) (h : Heap) (a : Addr) (L : List Str) : Prop := SetS w h a (fun k => decide (k ∈ L)) (canon L).length
theorem SetC.congr {w : World} {h : Heap} {a : Addr} {L M : List Str} (R : SetC w h a L) (e : ∀ k, k ∈ L ↔ k ∈ M) : SetC w h a M := by
  unfold SetC at R ⊢
  rw [canon_congr (fun k => (e k).symm)]
  exact SetS.congr R fun k => by rw [Bool.eq_iff_iff]; simp [e k]
theorem SetC.tab {w : World} {h : Heap} {a : Addr} {L : List Str} (R : SetC w h a L) : ∃ es t, TabS w h a es t ∧ (∀ k, k ∈ es.toList.map keyS ↔ k ∈ L) ∧ es.size = (canon L).length := by
  obtain ⟨es, t, T, m, n⟩ := SetS.tab R
  exact ⟨es, t, T, fun k => by rw [← m k, decide_eq_true_eq], n⟩
theorem TabS.setC {w : World} {h : Heap} {a : Addr} {es : Array (Int × Value)} {t : SetTable} {L : List Str} (R : TabS w h a es t) (m : ∀ k, k ∈ es.toList.map keyS ↔ k ∈ L) : SetC w h a L := by
  have S1 := TabS.setS (S := fun k => decide (k ∈ L)) R (fun k => by rw [decide_eq_true_eq, m k])
  exact SetS.canon S1 rfl
section
variable {P : Program} {w : World} {A : Around} {E : Value → Shared → Prop} {s : Shared} {a b : Addr} {L M : List Str}
theorem sub_set_set : isSubtype (.type "set") (.type "set") = pure true := PySem.sub_set_self
theorem anyS {Q : Bool → Shared → Prop} (hT : s.TypeIs (.ref a) "set") (h : Q true s) : wpAny (model P w) A (Builtin.Frozenset.isAnySet (.ref a)) Q E s := by
  unfold Builtin.Frozenset.isAnySet
  show wpAny _ _ (isInstance (.ref a) (.type "set") >>= _) _ _ _
  refine wpAny_bind (wpAny_isInstance hT PySem.sub_set_self ?_)
  exact wpAny_pure h
theorem TabS.typeIs {es : Array (Int × Value)} {t : SetTable} (R : TabS w s.heap a es t) : s.TypeIs (.ref a) "set" := by
  obtain ⟨o, ep, ho, hx, _⟩ := R
  exact ⟨o, ho, hx.1⟩
theorem baseS {Q : Value → Shared → Prop} (hT : s.TypeIs (.ref a) "set") (h : Q (.type "set") s) : wpAny (model P w) A (Builtin.Frozenset.baseOf a) Q E s := by
  unfold Builtin.Frozenset.baseOf
  refine wpAny_bind (wpAny_isInstance hT PySem.sub_set_self ?_)
  exact wpAny_pure h
theorem newS {Q : Value → Shared → Prop} (h : ∀ h' t, s.heap.objs.size < h'.objs.size → (∀ c u, s.heap.get? c = some u → h'.get? c = some u) → TabS w h' s.heap.objs.size #[] t → MaskQ t.mask → Q (.ref s.heap.objs.size) { s with heap := h' }) :
    wpAny (model P w) A (newSet (.type "set")) Q E s := by
  refine PpSet.newSet_ok (h _ _ (by rw [Heap.size_push]; exact Nat.lt_succ_self _) (fun c u e => Heap.get?_push_of_some _ e) ⟨_, 0, Heap.get?_push_size _ rfl, ⟨rfl, rfl, rfl⟩, rfl, (fun e he => by simp at he), (by simp), (by decide), (by rfl), List.Pairwise.nil, ?_⟩ (.inl rfl))
  show _ ∨ (!w.params.followText "set-order") = true
  cases w.params.followText "set-order"
  · exact .inr rfl
  · exact .inl rfl
theorem copyS {es : Array (Int × Value)} {t : SetTable} {Q : Value → Shared → Prop} (T : TabS w s.heap a es t) (few : es.size * 2 < 256)
    (h : ∀ h' er tr, s.heap.objs.size < h'.objs.size → (∀ c u, s.heap.get? c = some u → h'.get? c = some u) → TabS w h' s.heap.objs.size er tr → (∀ k, k ∈ er.toList.map keyS ↔ k ∈ es.toList.map keyS) → (er.size = 0 → MaskQ tr.mask) → er.size ≤ es.size → Q (.ref s.heap.objs.size) { s with heap := h' }) :
    wpAny (model P w) A (Builtin.Frozenset.copyOf a) Q E s := by
  unfold Builtin.Frozenset.copyOf
  have hlt : a < s.heap.objs.size := by
    obtain ⟨o, ep, ho, _⟩ := T
    exact Heap.lt_size ho
  refine wpAny_bind (baseS T.typeIs ?_)
  refine wpAny_bind (newS fun h1 t1 z1 k1 R1 m1 => ?_)
  have T1 : TabS w h1 a es t := T.at fun u e => k1 a u e
  refine wpAny_bind (wpAny_of_eq (a := s.heap.objs.size) rfl ?_)
  refine wpAny_bind (mergeS (s := { s with heap := h1 }) R1 T1 (Nat.ne_of_gt hlt) (fun _ => m1) (by simpa using few) (fun s1 Q1 _ q => wpAny_pure q) fun h2 er tr sb R2 mem mq le => ?_)
  refine wpAny_pure (h h2 er tr ?_ (fun c u e => (sb.2 c (Nat.ne_of_lt (Heap.lt_size e))).trans (k1 c u e)) R2 (fun k => ?_) mq (by simpa using le))
  · obtain ⟨o, ep, ho, _⟩ := R2
    exact Heap.lt_size ho
  · rw [mem k]
    simp
theorem unionS {Q : Value → Shared → Prop} (Ra : SetC w s.heap a L) (Rb : SetC w s.heap b M) (few : ((canon L).length + (canon M).length) * 2 < 256)
    (h : ∀ h', s.heap.objs.size < h'.objs.size → (∀ c u, s.heap.get? c = some u → h'.get? c = some u) → SetC w h' s.heap.objs.size (L ++ M) → Q (.ref s.heap.objs.size) { s with heap := h' }) :
    wpAny (model P w) A (binaryOp .BitOr (.ref a) (.ref b)) Q E s := by
  obtain ⟨ea, ta, Ta, ma, na⟩ := Ra.tab
  obtain ⟨eb, tb, Tb, mb, nb⟩ := Rb.tab
  refine wpAny_binaryOp_same (op := .BitOr) (T := "set") Ta.typeIs Tb.typeIs PySem.F.fills_set_or PySem.F.slot_set_or ?_
  refine wpAny_call_entry PySem.F.slot_set_or Ta.typeIs entry_set_or ?_ (PySem.F.args_set_or_2 _ _)
  unfold Builtin.«frozenset.__or__»
  show wpAny _ _ (Builtin.Frozenset.slot1 "__or__" _ >>= _) _ _ _
  refine wpAny_bind (wpAny_of_eq (a := ((Value.ref a : Value), (Value.ref b : Value))) (by rfl) ?_)
  dsimp only
  simp only [Bool.false_eq_true, if_false]
  refine wpAny_bind ?_
  unfold andM
  refine wpAny_bind (anyS Ta.typeIs ?_)
  show wpAny _ _ (Builtin.Frozenset.isAnySet (.ref b)) _ _ _
  refine anyS Tb.typeIs ?_
  refine wp_if_neg (by simp) ?_
  try refine wpAny_bind (wpAny_pure ?_)
  refine wpAny_bind ?_
  have hlb : b < s.heap.objs.size := by
    obtain ⟨o, ep, ho, _⟩ := Tb
    exact Heap.lt_size ho
  show wpAny _ _ (Builtin.Frozenset.copyOf a >>= _) _ _ _
  refine wpAny_bind (copyS Ta (by omega) fun h1 er tr z1 k1 R1 m1 mq le => ?_)
  have fin : ∀ h2, s.heap.objs.size < h2.objs.size → (∀ c u, s.heap.get? c = some u → h2.get? c = some u) → SetC w h2 s.heap.objs.size (L ++ M) →
      wpAny (model P w) A.in1 (ret (Value.ref s.heap.objs.size)) (fun fin s' => ∃ v, fin = Fin.done (Flow.ret v) ∧ v ≠ Value.notImplemented ∧ Q v s') E { s with heap := h2 } := fun h2 z k R => wpAny_pure ⟨_, rfl, (fun e => nomatch e), h h2 z k R⟩
  by_cases hab : a = b
  · subst hab
    refine wp_if_neg (by simp) ?_
    try refine wpAny_bind (wpAny_pure ?_)
    refine wpAny_pure (fin h1 z1 k1 (TabS.setC R1 fun k => ?_))
    have eab : ∀ k, k ∈ L ↔ k ∈ M := fun k => by
      obtain ⟨o1, p1, g1, _, d1, _⟩ := Ta
      obtain ⟨o2, p2, g2, _, d2, _⟩ := Tb
      rw [g1] at g2
      obtain rfl := Option.some.inj g2
      rw [d1] at d2
      obtain ⟨rfl, _⟩ : ea = eb ∧ True := by cases d2; exact ⟨rfl, trivial⟩
      exact (ma k).symm.trans (mb k)
    rw [m1 k, ma k, List.mem_append, ← eab k, or_self]
  · refine wp_if_pos (by simpa using Ne.symm hab) ?_
    have T1 : TabS w h1 b eb tb := Tb.at fun u e => k1 b u e
    have hmem : ∀ k, k ∈ er.toList.map keyS ↔ k ∈ L := fun k => (m1 k).trans (ma k)
    have T1' := T1
    obtain ⟨ob, epb, hob, hxb, hdb, gb, ndb, hbb, hfb, hrb, hlb'⟩ := T1'
    refine wpAny_bind (m := Builtin.Frozenset.addrOf (.ref s.heap.objs.size)) (wpAny_of_eq (a := s.heap.objs.size) rfl ?_)
    refine wpAny_bind (wpAny_holding ?_)
    unfold Builtin.Frozenset.updateFrom
    refine wpAny_bind (anyS (TabS.typeIs (s := { s with heap := h1 }) T1) ?_)
    refine wp_if_pos rfl ?_
    refine wpAny_bind (wpAny_of_eq (a := b) rfl ?_)
    unfold Builtin.Frozenset.merge
    refine wpAny_bind (wpAny_setEpoch_of (s := { s with heap := h1 }) hob hdb hfb ?_)
    refine mergeS (s := { s with heap := h1 }) R1 T1 (Nat.ne_of_gt hlb) mq (by omega) (fun s1 Q1 e q => ?_) fun h2 er2 tr2 sb R2 mem _ _ => ?_
    · unfold Builtin.Frozenset.unchanged
      have hob1 : s1.heap.get? b = some ob := e.trans hob
      refine wpAny_bind (wpAny_setEpoch_of hob1 hdb hfb ?_)
      refine wp_if_neg (by simp) ?_
      exact wpAny_pure q
    · have k2 : ∀ c u, s.heap.get? c = some u → h2.get? c = some u := fun c u e => (sb.2 c (Nat.ne_of_lt (Heap.lt_size e))).trans (k1 c u e)
      refine wpAny_pure (fin h2 ?_ k2 (TabS.setC R2 fun k => ?_))
      · obtain ⟨o, ep, ho, _⟩ := R2
        exact Heap.lt_size ho
      · rw [mem k, hmem k, mb k, List.mem_append]
end
end TX
set_option Elab.async false
set_option linter.all false
set_option maxRecDepth 100000
set_option maxHeartbeats 2000000
/-! sets of texts as tracked things: set(xs), |, sorted, len, {.. for ..} -/
namespace TX
open PySem PySem.Spec PyProof.Rows L2
section
variable {P : Program} {w : World} {A : Around} {E : Value → Shared → Prop} {s : Shared} {a : Addr} {L : List Str}
theorem sortedC {Q : Value → Shared → Prop} (R : SetC w s.heap a L) (hh : A.handled = none) (h64 : (canon L).length < 64)
    (hQ : ∀ s' p (out : Array Value) (c : Nat), (∀ b o, s.heap.get? b = some o → s'.heap.get? b = some o) → s'.gens = s.gens → s'.os = s.os → s.heap.objs.size ≤ p →
      s'.heap.get? p = some (seqObj "list" out c) → StrsAre out.toList (canon L) → Q (.ref p) s') :
    wpAny (model P w) A (call (.builtin "sorted") [.ref a]) Q E s := by
  obtain ⟨es, t, T, m, n⟩ := R.tab
  obtain ⟨o, ep, ho, hex, hd, g, nd, hb, hf, hr, hl⟩ := T
  refine Calls.call_function_entry PyProof.Rows.kind_sorted PyProof.Rows.plain_sorted PyProof.Rows.entry_sorted (PyProof.Rows.args_sorted1 _) ?_
  unfold Builtin.«sorted»
  refine wpAny_bind (m := checkCount "sorted" 1 1 _) (wpAny_pure ?_)
  refine wpAny_bind (collect_set (A := A.in1) hh ⟨o, ho, hex.1, hd⟩ hf hb hr hl fun s1 vs k1 hz g1 o1 pm => ?_)
  have hvl : vs.length = (canon L).length := by rw [pm.length_eq, List.length_map, Array.length_toList]; exact n
  have hS : StrsAre vs (vs.map PyProof.Rows.strOf) := PyProof.Rows.strsAre_map vs fun v hv => by
    obtain ⟨e, he, q⟩ := List.mem_map.mp (pm.mem_iff.mp hv)
    obtain ⟨k, tk, h1, _⟩ := g e he
    exact ⟨k, tk, by rw [← q]; exact h1⟩
  have pk : (vs.map PyProof.Rows.strOf).Perm (es.toList.map keyS) := by
    have q := pm.map PyProof.Rows.strOf
    rw [List.map_map] at q
    have e : es.toList.map (PyProof.Rows.strOf ∘ fun x => x.2) = es.toList.map keyS := List.map_congr_left fun e he => by
      obtain ⟨k, tk, h1, _⟩ := g e he
      show PyProof.Rows.strOf e.2 = keyS e
      unfold keyS
      rw [h1]
      rfl
    rw [e] at q
    exact q
  refine wpAny_bind (wpAny_newList ?_ (by rw [hvl, sizeLine_eq]; omega))
  have hoL : (s1.heap.push (seqObj "list" vs.toArray 0)).get? s1.heap.objs.size = some (seqObj "list" vs.toArray 0) := Heap.get?_push_size _ rfl
  refine wpAny_bind (wpAny_holding (wpAny_call_entry PyProof.Rows.slot_list_sort ⟨_, hoL, rfl⟩ PyProof.Rows.entry_list_sort
    (list_sort_treeK strKind_oneLt (s := { s1 with heap := s1.heap.push (seqObj "list" vs.toArray 0) }) hoL hS.keysOf (fun v₁ v₂ rest e => keyKind_strs (by rw [← e]; exact hS)) (by rw [hvl]; exact h64) fun st' hp hs => ⟨_, rfl, ?_⟩)
    (PyProof.Rows.args_list_sort _)))
  obtain ⟨ys, g1', g2, g3⟩ := sorted_out_str hS hp hs
  obtain ⟨c, hc⟩ := PyProof.Rows.sortedHeap_at (vs := vs) (out := (arrOf st').map (·.2)) hoL
  have pn : ys.Perm (es.toList.map keyS) := g2.trans pk
  have ey : ys = canon L := (sorted_srt g3 (pn.nodup_iff.mpr nd)).ext (srt_canon L) fun k => by rw [pn.mem_iff, m k, mem_canon]
  rw [ey] at g1'
  refine wpAny_pure ⟨_, rfl, hQ _ s1.heap.objs.size _ c (fun b u e => ?_) g1 o1 hz hc g1'⟩
  have q := k1 b u e
  have hlt := Heap.lt_size q
  show (PyProof.Rows.sortedHeap (s1.heap.push (seqObj "list" vs.toArray 0)) s1.heap.objs.size vs _).get? b = some u
  rw [PyProof.Rows.sortedHeap_old (Nat.ne_of_lt hlt) (by rw [size_push']; exact Nat.lt_succ_of_lt hlt)]
  exact Heap.get?_push_of_some _ q
end
/-! ### tracked -/
def SetSO (w : World) (a : Addr) (L : List Str) : HO := .ext fun h => SetC w h a L
theorem setSO_new {w : World} {P : Program} {H : Hp} {h : Heap} {a : Addr} {L : List Str} (R : SetC w h a L) : ObjOk P w H h a (SetSO w a L) := by
  have ⟨o, _, _, _, ho, _⟩ := R
  exact ⟨R, ⟨o, ho⟩, fun h1 h2 p k => SetS.at p k⟩
section
variable {X : Cx}
theorem setSO_get {pins : List (Addr × Obj)} {σ : L2.St} {H : Hp} {s : Shared} {a : Addr} {L : List Str} (I : Inv X pins σ H s) (ha : H a = some (SetSO X.w a L)) : SetC X.w s.heap a L := (I.hok a _ ha).1
/-- set(xs), xs a list or a tuple of texts -/
def rSetS (K : PySem.W.Frag) (w : World) : List V → Hp → VK → Prop := fun xs H Q => ∃ (l : Addr) (zs : List Str), xs = [V.ref l] ∧ (SqL K H l (zs.map V.str) ∨ SqT K H l (zs.map V.str)) ∧ zs.length + 1 < scanBound ∧ ∀ p, H p = none → Q (.ref p) (upd H p (SetSO w p zs))
theorem cr_setS (hc : X.calm = true) : CallR X (.type "set") (rSetS X.K X.w) := by
  intro pins s σ H xs us Q I r h
  obtain ⟨l, zs, rfl, hl, hz, q⟩ := h
  rw [Vals.ref1 r]
  have hn : H s.heap.objs.size = none := I.hok.fresh (Nat.le_refl _)
  have fin : ∀ (h' : Heap) (tk : Nat), SetS X.w h' s.heap.objs.size (fun k' => decide (k' ∈ zs)) (canon zs).length → (∀ b o, b < s.heap.objs.size → s.heap.get? b = some o → h'.get? b = some o) →
      EP X pins σ Q (.ref s.heap.objs.size) { s with heap := h', toks := tk } := fun h' tk R k =>
    ⟨.ref s.heap.objs.size, upd H s.heap.objs.size (SetSO X.w s.heap.objs.size zs), I.laid (t' := tk) (fun b o e => k b o (Heap.lt_size e) e) (Nat.le_refl _) (setSO_new R), rfl, q _ hn⟩
  rcases hl with hl | hl
  · obtain ⟨its, rv, pl, hz2⟩ := I.list hl
    have lz := rv.length
    rw [List.length_map] at lz
    exact call_set_listS (I.ok.hd hc) pl.isList rv.strs (by rw [List.size_toArray, ← lz]; exact hz) fin
  · obtain ⟨its, rv, pl, hz2⟩ := I.tuple hl
    have lz := rv.length
    rw [List.length_map] at lz
    exact call_set_tupleS (I.ok.hd hc) pl rv.strs (by rw [List.size_toArray, ← lz]; exact hz) fin
/-- a | b -/
def rOrS (w : World) : R2 := fun x y H Q => ∃ (a b : Addr) (L M : List Str), x = .ref a ∧ y = .ref b ∧ H a = some (SetSO w a L) ∧ H b = some (SetSO w b M) ∧ ((canon L).length + (canon M).length) * 2 < 256 ∧ ∀ p, H p = none → Q (.ref p) (upd H p (SetSO w p (L ++ M)))
theorem op_orS : OpR X (binaryOp .BitOr) (rOrS X.w) := by
  intro pins s σ H x y v u Q I rx ry h
  obtain ⟨a, b, L, M, rfl, rfl, ha, hb, few, q⟩ := h
  cases rx
  cases ry
  refine unionS (setSO_get I ha) (setSO_get I hb) few fun h' z k R => ?_
  exact ⟨.ref s.heap.objs.size, upd H s.heap.objs.size (SetSO X.w s.heap.objs.size (L ++ M)), I.laid (t' := s.toks) k (Nat.le_refl _) (setSO_new R), rfl, q _ (I.hok.fresh (Nat.le_refl _))⟩
/-- sorted(a) -/
def rSortedSS (w : World) : List V → Hp → VK → Prop := fun vs H Q => ∃ (a : Addr) (L : List Str), vs = [V.ref a] ∧ H a = some (SetSO w a L) ∧ (canon L).length < 64 ∧ ∀ p, H p = none → Q (.ref p) (upd H p (.lst ((canon L).map V.str)))
theorem cr_sortedSS (hc : X.calm = true) : CallR X (.builtin "sorted") (rSortedSS X.w) := by
  intro pins s σ H vs us Q I r h
  obtain ⟨a, L, rfl, ha, h64, q⟩ := h
  rw [Vals.ref1 r]
  refine sortedC (setSO_get I ha) (I.ok.hd hc) h64 fun s' p out c k g o hp hg hs => ?_
  have hlen : ((canon L).map V.str).length ≤ sizeLine := by rw [List.length_map, sizeLine_eq]; omega
  have hn : H p = none := I.hok.fresh hp
  have J : Inv X pins σ (upd H p (.lst ((canon L).map V.str))) { s with heap := s'.heap, gens := s'.gens, drawn := s'.drawn, toks := s'.toks } :=
    I.call (ch := []) (Un.laid k hp hn) (I.hok.laid k hp ⟨hlen, out.toList, c, vals_of_strs hs, hg⟩) (by rw [g]; exact I.bare) (fun _ z => nomatch z)
  have e : s' = { s with heap := s'.heap, gens := s'.gens, drawn := s'.drawn, toks := s'.toks } := by
    cases s'
    cases s
    cases o
    rfl
  rw [e]
  exact ⟨.ref p, _, J, rfl, q p hn⟩
/-- found.add(text) -/
theorem addS_ok {pins : List (Addr × Obj)} {σ : L2.St} {H : Hp} {s : Shared} {E : Value → Shared → Prop} {D : Addr} {L : List Str} {y : Str} {tk : Tok} {Q : Value → Shared → Prop} (I : Inv X pins σ H s) (hD : H D = some (SetSO X.w D L)) (room : (canon L).length + 1 < scanBound)
    (h : ∀ s', Inv X pins σ (upd H D (SetSO X.w D (y :: L))) s' → Q .none s') : wpAny (model X.prog X.w) X.A (call (.builtin "set.add") [.ref D, .str y tk]) Q E s := by
  have R := setSO_get I hD
  refine setS_add R room fun h' sb new => ?_
  have he : ∃ u, h'.get? D = some u := by
    have ⟨o, _, _, _, ho, _⟩ := new
    exact ⟨o, ho⟩
  have new2 : SetC X.w h' D (y :: L) := SetS.canon (n := _) (new.congr fun k => by rw [Bool.eq_iff_iff]; simp [or_comm]) rfl
  exact h _ (I.write (e := D) (t' := s.toks + 1) (by rw [hD]; trivial) (.inl rfl) (fun b u hb hu => (sb.2 b hb).trans hu) he (setSO_new new2))
end
section
variable {X : Cx}
/-- {elt for target in iter if ..}, elt a text: D the new set -/
def tScS (w : World) (wi : TI) (g : TG) (tt : TT) (te : TE) (vs : List Nat) : TE := fun σ H Q => wi σ H fun J H1 => ∀ D, H1 D = none → ∃ W : Nat → Nat → Hp → Prop, (∃ m, W 0 m (upd H1 D (SetSO w D []))) ∧ ∀ i m H, W i m H →
  (J.stop i H ∧ Q (.ref D) H) ∨ (J.go i H ∧ ∃ Nx : Hp → Prop, (∀ H', Nx H' → ∃ m', m' < m ∧ W (i + 1) m' H') ∧ ∀ x H', J.yld i H x H' → g x (wipe σ vs) H' fun σ2 H2 => wipe σ2 vs = wipe σ vs ∧ tt σ2 H2 fun b H3 =>
    if b = true then te σ2 H3 fun y H4 => ∃ (c : Str) (L : List Str), y = .str c ∧ H4 D = some (SetSO w D L) ∧ (canon L).length + 1 < scanBound ∧ Nx (upd H4 D (SetSO w D (c :: L))) else Nx H3)
theorem scS_core {pins : List (Addr × Obj)} {s : Shared} {σ : L2.St} {H : Hp} {Q : VK} {elt tg iter : Expr} {ifs : List Expr} {scope : Scope} {own : List (PySem.Str × Nat)} {pos pos' : Pos} {wi : TI} {g : TG} {tt : TT} {te : TE} {use : Option (Value → Sem Unit)} {Qf : Value → Shared → Prop}
    (hc : X.calm = true) (hN : X.N.Nodup) (I : Inv X pins σ H s) (hi : PI X tg iter wi) (ok : BlkOk X.N X.env.scope scope own)
    (hg : ∀ (s : Shared) (H : Hp) (C : Addr) (cl : List (PySem.Str × Addr)) (fp : List Addr), PG (X.blk s H scope (compEnvC scope cl C X.env) fp) tg g) (ht : ∀ (s : Shared) (H : Hp) (C : Addr) (cl : List (PySem.Str × Addr)) (fp : List Addr), PTs (X.blk s H scope (compEnvC scope cl C X.env) fp) ifs tt)
    (he : ∀ (s : Shared) (H : Hp) (C : Addr) (cl : List (PySem.Str × Addr)) (fp : List Addr), PE (X.blk s H scope (compEnvC scope cl C X.env) fp) elt te) (hs : ∀ x, foldedSetIterable iter X.env x = pure x)
    (h : tScS X.w wi g tt te (own.map (·.2)) σ H Q)
    (hRR : ∀ D C s' m H', Inv X pins σ H' s' → Q (.ref D) H' → s'.heap.Ns C m → FpOk X pins H' C → compPost (model X.prog X.w) X.A X.xe use Qf (.ref D) C (.ok .next) s') :
    wpAny (model X.prog X.w) X.A (comprehension (.SetComp elt [⟨tg, iter, ifs, 0⟩] scope pos) scope X.env pos' (newSet (.type "set")) false (eval iter X.env) use) Qf X.xe s := by
  have hfree : ∀ y ∈ scope.names, y.2 = .free → ∃ c, X.env.cells.lookup y.1 = some c := fun y hy e => by
    rcases ok.free y hy e with k | k
    · exact I.ok.has _ (.inl k)
    · exact I.ok.has _ (.inr k)
  refine wpAny_comprehension_free (use := use) rfl hs (closure_ok hfree) ok.kind (fun y hy e => by rw [ok.uniq y hy, e])
    (thn (hi.run pins s σ H _ I h) fun xv s1 hx => thn hx fun itv s2 h2 => ?_)
  obtain ⟨it, fp, tn, J, H2, e, I2, T, st2, f2, q⟩ := h2
  subst e
  refine PpSet.newSet_ok (newEnv_comp ?_)
  generalize hD : s2.heap.objs.size = D
  have hDn : H2 D = none := I2.hok.fresh (Nat.le_of_eq hD)
  obtain ⟨W, ⟨m0, w0⟩, turn⟩ := q D hDn
  -- the new list
  generalize hs3 : ({ s2 with heap := s2.heap.push { cls := .type "set", dict := none, data := .set #[] 0 (.fresh 0 0 (!X.w.params.followText "set-order")) } } : Shared) = s3
  have I3 : Inv X pins σ (upd H2 D (SetSO X.w D [])) s3 := by
    rw [← hs3]
    refine I2.laid (t' := s2.toks) (fun b o e => Heap.get?_push_of_some _ e) (Nat.le_of_eq hD) ?_
    rw [← hD]
    exact setSO_new (SetS.canon (n := _) ((setS_at0 rfl (Heap.get?_push_size _ rfl)).congr fun k => by simp) rfl)
  have h3 : s3.heap = s2.heap.push { cls := .type "set", dict := none, data := .set #[] 0 (.fresh 0 0 (!X.w.params.followText "set-order")) } := by rw [← hs3]
  have sz : ∀ b ∈ fp, b < s2.heap.objs.size := fun b hb => by
    obtain ⟨o, e, _⟩ := T.obj _ _ st2 b hb
    exact Heap.lt_size e
  have f3 : ∀ b ∈ fp, FpOk X pins (upd H2 D (SetSO X.w D [])) b ∧ b < s3.heap.objs.size := fun b hb => by
    have hlt := sz b hb
    refine ⟨⟨?_, (f2 b hb).2⟩, by rw [h3, Heap.size_push]; exact Nat.lt_succ_of_lt hlt⟩
    rw [upd_ne (by rw [← hD]; exact Nat.ne_of_lt hlt)]
    exact (f2 b hb).1
  have st3 : tn 0 s3.heap := T.keep _ _ _ st2 fun b _ o e => by rw [h3]; exact Heap.get?_push_of_some _ e
  have I4 := block_start I3 ok hN f3
  have pg := hg s3 (upd H2 D (SetSO X.w D [])) s3.heap.objs.size (cellsFrom (s3.heap.objs.size + 1) scope.names (cloFrom X.env.cells scope.names [])) fp
  have pt := ht s3 (upd H2 D (SetSO X.w D [])) s3.heap.objs.size (cellsFrom (s3.heap.objs.size + 1) scope.names (cloFrom X.env.cells scope.names [])) fp
  have pe := he s3 (upd H2 D (SetSO X.w D [])) s3.heap.objs.size (cellsFrom (s3.heap.objs.size + 1) scope.names (cloFrom X.env.cells scope.names [])) fp
  show codeAny _ _ (.compStart (.SetComp elt [⟨tg, iter, ifs, 0⟩] scope pos) 0 (.ref it) (.ref D) (compEnvC scope (cellsFrom (s3.heap.objs.size + 1) scope.names (cloFrom X.env.cells scope.names [])) s3.heap.objs.size X.env)) (compPost (model X.prog X.w) X.A X.xe use Qf (.ref D) s3.heap.objs.size) { s3 with heap := pushCells (s3.heap.push { cls := .type "dict", data := .dict #[] }) scope.names }
  have nfp : ∀ b ∈ fp, (upd H2 D (SetSO X.w D [])) b = none := fun b hb => (f3 b hb).1.1
  generalize hce : compEnvC scope (cellsFrom (s3.heap.objs.size + 1) scope.names (cloFrom X.env.cells scope.names [])) s3.heap.objs.size X.env = ce at I4 pg pt pe ⊢
  have cL : ce.locals = s3.heap.objs.size := by subst hce; rfl
  generalize hH3 : upd H2 D (SetSO X.w D []) = H3 at I3 I4 pg pt pe w0 nfp f3
  generalize hs4 : ({ s3 with heap := pushCells (s3.heap.push { cls := .type "dict", data := .dict #[] }) scope.names } : Shared) = s4 at I4 ⊢
  have st4 : tn 0 s4.heap := T.keep _ _ _ st3 fun b _ o e => by rw [← hs4]; exact pushCells_keeps _ _ _ _ (Heap.get?_push_of_some _ e)
  have stat : ∀ {σ' : L2.St} {H' : Hp} {s' : Shared}, Inv (X.blk s3 H3 scope ce fp) [] σ' H' s' → (∀ b ∈ fp, H' b = none) → ∀ b ∈ fp, FpOk (X.blk s3 H3 scope ce fp) [] H' b := fun {σ' H' s'} I' hn b hb =>
    ⟨hn b hb, (I'.ok.exf b hb).1, I'.ok.exfs b hb, .inl hb, fun x c e => (I'.ok.exf b hb).2 x c e, fun p hp => absurd (show p ∈ ([] : List (Addr × Obj)) ++ [] from hp) (by simp)⟩
  have loop : codeAny (model X.prog X.w) X.A (.compLoop (.SetComp elt [⟨tg, iter, ifs, 0⟩] scope pos) 0 (.ref it) (.ref D) ce) (compPost (model X.prog X.w) X.A X.xe use Qf (.ref D) s3.heap.objs.size) s4 := by
    refine PpSet.compLoopS_any (fun n s' => ∃ i H', Inv (X.blk s3 H3 scope ce fp) [] (wipe σ (own.map (·.2))) H' s' ∧ tn i s'.heap ∧ (∀ b ∈ fp, H' b = none) ∧ W i n H') ?_ m0 ⟨0, H3, I4, st4, nfp, w0⟩
    rintro n s5 ⟨i, H5, I5, st5, n5, w5⟩
    rcases turn i n H5 w5 with ⟨stop, qq⟩ | ⟨go, Nx, hNx, step⟩
    · have td := T.done (X.blk s3 H3 scope ce fp) rfl rfl rfl hc i [] s5 _ H5 (fun _ _ => False) I5 (stat I5 n5) st5 stop
      refine thnF td fun r s6 ⟨hr, I6⟩ => ?_
      subst hr
      -- back in the def's context
      have I7 : Inv X pins σ H5 s6 := I3.call' (ch := fp) I6.os I6.base I6.hok I6.bare fun b hb => ⟨(f3 b hb).1.2.2.2.1, (f3 b hb).1.2.1, (f3 b hb).1.2.2.2.2.1, (f3 b hb).1.2.2.2.2.2⟩
      have nC : H5 s3.heap.objs.size = none := by
        have z : H5 ce.locals = none := I6.free
        rw [cL] at z
        exact z
      obtain ⟨m, hn, _⟩ := I6.loc
      have hn : s6.heap.Ns ce.locals m := hn
      rw [cL] at hn
      exact hRR D s3.heap.objs.size s6 m H5 I7 qq hn (I3.fpOk (Nat.le_refl _) nC)
    · have ti := T.item (X.blk s3 H3 scope ce fp) rfl rfl rfl hc i [] s5 _ H5 (fun _ _ => False) I5 (stat I5 n5) st5 go
      refine thnF ti fun r s6 ⟨u, hr, h6⟩ => ?_
      subst hr
      refine thnF h6 fun _ s7 ⟨x, H7, I7, r7, y7, st7, n7⟩ => ?_
      have I7' := I7.pinned (stat I7 n7) (T.obj _ _ st7)
      refine thnF (pg.run _ s7 _ H7 x u _ I7' r7 (step x H7 y7)) fun _ s8 ⟨σ8, H8, I8, hw8, q8⟩ => ?_
      refine thnF (pt.run _ s8 σ8 H8 _ I8 q8) fun b s9 ⟨H9, I9, q9⟩ => ?_
      -- the turn's end
      have fin : ∀ {s' : Shared} {H' : Hp}, Inv (X.blk s3 H3 scope ce fp) ([] ++ pinsAt fp s7.heap) σ8 H' s' → Nx H' → ∃ m, m < n ∧ ∃ i H', Inv (X.blk s3 H3 scope ce fp) [] (wipe σ (own.map (·.2))) H' s' ∧ tn i s'.heap ∧ (∀ b ∈ fp, H' b = none) ∧ W i m H' := fun {s' H'} I' nx => by
        obtain ⟨m', hm, w'⟩ := hNx H' nx
        have pin' : ∀ b ∈ fp, ∀ o, s7.heap.get? b = some o → s'.heap.get? b = some o ∧ H' b = none := fun b hb o e =>
          let z := I'.pin (b, o) (List.mem_append_right _ (List.mem_append_right _ (mem_pinsAt hb e)))
          ⟨z.1, z.2.1⟩
        have hl : (wipe σ (own.map (·.2))).length = σ8.length := by rw [← hw8, wipe_length]
        refine ⟨m', hm, i + 1, H', (I'.unpinned (pins := [])).weak hl (fun j v e => ?_), T.keep _ _ _ st7 fun b hb o e => (pin' b hb o e).1, fun b hb => ?_, w'⟩
        · rw [← hw8] at e
          exact (wipe_some e).1
        · obtain ⟨o, e, _⟩ := T.obj _ _ st7 b hb
          exact (pin' b hb o e).2
      cases b with
      | false =>
        simp only [Bool.false_eq_true, if_false] at q9 ⊢
        exact fin I9 q9
      | true =>
        simp only [if_true] at q9 ⊢
        refine thnF (pe.run _ s9 σ8 H9 _ I9 q9) fun z s10 ⟨yv, H10, I10, r10, cb, L0, ey, hD10, hz10, nx⟩ => ?_
        subst ey
        obtain ⟨tk, rfl⟩ := (show L2.RelV (.str cb) z from r10)
        exact addS_ok (X := X.blk s3 H3 scope ce fp) I10 hD10 hz10 fun s11 I11 => fin I11 nx
  exact PpSet.codeAny_compStart_set loop (T.self X.A 0 _ _ _ st4 loop)
/-- as a value -/
theorem pe_scS {elt tg iter : Expr} {ifs : List Expr} {scope : Scope} {own : List (PySem.Str × Nat)} {pos : Pos} {wi : TI} {g : TG} {tt : TT} {te : TE} (hc : X.calm = true) (hN : X.N.Nodup) (hi : PI X tg iter wi) (ok : BlkOk X.N X.env.scope scope own)
    (hg : ∀ (s : Shared) (H : Hp) (C : Addr) (cl : List (PySem.Str × Addr)) (fp : List Addr), PG (X.blk s H scope (compEnvC scope cl C X.env) fp) tg g) (ht : ∀ (s : Shared) (H : Hp) (C : Addr) (cl : List (PySem.Str × Addr)) (fp : List Addr), PTs (X.blk s H scope (compEnvC scope cl C X.env) fp) ifs tt)
    (he : ∀ (s : Shared) (H : Hp) (C : Addr) (cl : List (PySem.Str × Addr)) (fp : List Addr), PE (X.blk s H scope (compEnvC scope cl C X.env) fp) elt te) (hs : ∀ x, foldedSetIterable iter X.env x = pure x := by intro _; rfl) :
    PE X (.SetComp elt [⟨tg, iter, ifs, 0⟩] scope pos) (tScS X.w wi g tt te (own.map (·.2))) := by
  refine ⟨fun pins s σ H Q I h => ?_⟩
  rw [PpSet.eval_SetComp]
  refine scS_core hc hN I hi ok hg ht he hs h fun D C s' m H' I' q hn f => ⟨m, hn, fun h'' sb => ?_⟩
  obtain ⟨f0, f1, f2, f3, f4, f5⟩ := f
  exact ⟨.ref D, H', I'.turned (t' := s'.toks) (fun b o hb e => (sb.2 b hb).trans e) f0 f1 f3 f4 f5, rfl, q⟩
end
/-- over a tuple that the block leaves as it is -/
theorem scS_tup {w : World} {K : PySem.W.Frag} {a : Addr} {xs : List V} {g : TG} {tt : TT} {te : TE} {vs : List Nat} {σ : L2.St} {H1 : Hp} {D : Addr} {Qd : Hp → Prop} (Pv : Nat → Hp → Prop) (h0 : Pv 0 (upd H1 D (SetSO w D []))) (hl : ∀ i H, i ≤ xs.length → Pv i H → SqT K H a xs)
    (hs : ∀ i x H, xs[i]? = some x → Pv i H → g x (wipe σ vs) H fun σ2 H2 => wipe σ2 vs = wipe σ vs ∧ tt σ2 H2 fun b H3 =>
      if b = true then te σ2 H3 fun y H4 => ∃ (c : Str) (L : List Str), y = .str c ∧ H4 D = some (SetSO w D L) ∧ (canon L).length + 1 < scanBound ∧ Pv (i + 1) (upd H4 D (SetSO w D (c :: L))) else Pv (i + 1) H3) (hd : ∀ H, Pv xs.length H → Qd H) :
    ∃ W : Nat → Nat → Hp → Prop, (∃ m, W 0 m (upd H1 D (SetSO w D []))) ∧ ∀ i m H, W i m H →
      ((Itt K a).stop i H ∧ Qd H) ∨ ((Itt K a).go i H ∧ ∃ Nx : Hp → Prop, (∀ H', Nx H' → ∃ m', m' < m ∧ W (i + 1) m' H') ∧ ∀ x H', (Itt K a).yld i H x H' → g x (wipe σ vs) H' fun σ2 H2 => wipe σ2 vs = wipe σ vs ∧ tt σ2 H2 fun b H3 =>
        if b = true then te σ2 H3 fun y H4 => ∃ (c : Str) (L : List Str), y = .str c ∧ H4 D = some (SetSO w D L) ∧ (canon L).length + 1 < scanBound ∧ Nx (upd H4 D (SetSO w D (c :: L))) else Nx H3) := by
  refine ⟨fun i m H => m = xs.length - i ∧ i ≤ xs.length ∧ Pv i H, ⟨xs.length, by simp, Nat.zero_le _, h0⟩, ?_⟩
  rintro i m H ⟨rfl, hi, p⟩
  have q := hl i H hi p
  by_cases hlt : i < xs.length
  · refine .inr ⟨⟨xs, xs[i], q, by simp [hlt]⟩, Pv (i + 1), fun H' p' => ⟨xs.length - (i + 1), by omega, rfl, hlt, p'⟩, fun x H' y => ?_⟩
    obtain ⟨e, y⟩ := y
    subst e
    exact hs i x _ (y xs q) p
  · have e : i = xs.length := by omega
    subst e
    exact .inl ⟨⟨xs, q, Nat.le_refl _⟩, hd H p⟩

section
variable {X : Cx}
/-- len(a), a a set of texts -/
def rLenS (w : World) : List V → Hp → VK → Prop := fun vs H Q => ∃ (a : Addr) (L : List Str), vs = [V.ref a] ∧ H a = some (SetSO w a L) ∧ Q (.int (canon L).length) H
end
end TX
set_option Elab.async false
set_option linter.all false
set_option maxRecDepth 100000
set_option maxHeartbeats 4000000
/-! len(a) of a set of texts; {.. for ..} over anything walked -/
namespace TX
open PySem PySem.Spec PyProof.Rows L2
section
variable {X : Cx}
theorem call_lenS : CallR X (.builtin "len") (rLenS X.w) := by
  intro pins s σ H xs us Q I r h
  obtain ⟨a, L, rfl, ha, q⟩ := h
  obtain ⟨u, rfl, r1⟩ := vals1 r
  obtain rfl : u = Value.ref a := r1
  obtain ⟨o, es, ep, t, ho, hx, hd, g, nd, hm, hb, hf, hn, hr, hl⟩ := setSO_get I ha
  have hs : scanBound ≤ 1000000 := by decide
  refine call_len_set ho hx hd hf (by omega) ⟨.int (canon L).length, H, I.tok _, ⟨_, by rw [hn]⟩, q⟩
end
theorem scS_it {w0 : World} {J : It} {n : Nat} {G : Hp → Prop} {Y : Nat → Hp → V → Hp → Prop} (w : Walk J n G Y) {g : TG} {tt : TT} {te : TE} {vs : List Nat} {σ : L2.St} {H1 : Hp} {D : Addr} {Qd : Hp → Prop} (Pv : Nat → Hp → Prop) (h0 : Pv 0 (upd H1 D (SetSO w0 D []))) (hG : ∀ i H, i ≤ n → Pv i H → G H)
    (hs : ∀ i x H H', i < n → Pv i H → Y i H x H' → g x (wipe σ vs) H' fun σ2 H2 => wipe σ2 vs = wipe σ vs ∧ tt σ2 H2 fun b H3 =>
      if b = true then te σ2 H3 fun y H4 => ∃ (c : Str) (L : List Str), y = .str c ∧ H4 D = some (SetSO w0 D L) ∧ (canon L).length + 1 < scanBound ∧ Pv (i + 1) (upd H4 D (SetSO w0 D (c :: L))) else Pv (i + 1) H3) (hd : ∀ H, Pv n H → Qd H) :
    ∃ W : Nat → Nat → Hp → Prop, (∃ m, W 0 m (upd H1 D (SetSO w0 D []))) ∧ ∀ i m H, W i m H →
      (J.stop i H ∧ Qd H) ∨ (J.go i H ∧ ∃ Nx : Hp → Prop, (∀ H', Nx H' → ∃ m', m' < m ∧ W (i + 1) m' H') ∧ ∀ x H', J.yld i H x H' → g x (wipe σ vs) H' fun σ2 H2 => wipe σ2 vs = wipe σ vs ∧ tt σ2 H2 fun b H3 =>
        if b = true then te σ2 H3 fun y H4 => ∃ (c : Str) (L : List Str), y = .str c ∧ H4 D = some (SetSO w0 D L) ∧ (canon L).length + 1 < scanBound ∧ Nx (upd H4 D (SetSO w0 D (c :: L))) else Nx H3) := by
  refine ⟨fun i m H => m = n - i ∧ i ≤ n ∧ Pv i H, ⟨n, by simp, Nat.zero_le _, h0⟩, ?_⟩
  rintro i m H ⟨rfl, hi, p⟩
  have q := hG i H hi p
  by_cases hlt : i < n
  · exact .inr ⟨w.goes i H hlt q, Pv (i + 1), fun H' p' => ⟨n - (i + 1), by omega, rfl, hlt, p'⟩, fun x H' y => hs i x H H' hlt p (w.yields i H x H' hlt q y)⟩
  · have e : i = n := by omega
    subst e
    exact .inl ⟨w.stops H q, hd H p⟩
end TX
set_option Elab.async false
set_option linter.all false
set_option maxRecDepth 100000
set_option maxHeartbeats 4000000
/-! comprehensions whose elements are data, the heap growing; zip of two tuples walked -/
namespace EX2
open PySem PySem.Spec PyProof.Rows L2
theorem walk_zipT {K : PySem.W.Frag} {a b : Addr} {xs ys : List V} {n : Nat} (hn : n = min xs.length ys.length) : Walk (RZ.ItzT K a b) n (fun H => SqT K H a xs ∧ SqT K H b ys) (YPair (fun i => xs[i]?) (fun i => ys[i]?)) := by
  subst hn
  refine ⟨fun i _ hi q => ?_, fun _ q => ⟨xs, ys, q.1, q.2, by omega⟩, fun i H v H' _ q y => ?_⟩
  · have h1 : i < xs.length := by omega
    have h2 : i < ys.length := by omega
    exact ⟨xs, ys, xs[i], ys[i], q.1, q.2, by simp [h1], by simp [h2]⟩
  · obtain ⟨T, x, y, h1, h2, h3, h4, h5⟩ := y
    exact ⟨T, x, y, h1, h2, h3, h4 xs q.1, h5 ys q.2⟩
section
variable {H : Hp} {p : Addr} {l : List V}
mutual
theorem dq_rmL' (hp : H p = some (.lst l)) : ∀ {x : V} {d : PyData}, Dq H x d → noL d = true → Dq (rm p H) x d
  | _, _, .non, _ => .non
  | _, _, .bl b, _ => .bl b
  | _, _, .int i, _ => .int i
  | _, _, .str x, _ => .str x
  | _, _, .lst q h, n => by cases n
  | _, _, .tup (a := a) q h, n => .tup (by rw [rm_ne (ne_of q hp (fun z => nomatch z))]; exact q) (dqAll_rmL' hp h n)
  | _, _, .dk q h, n => by cases n
theorem dqAll_rmL' (hp : H p = some (.lst l)) : ∀ {xs : List V} {ds : List PyData}, DqAll H xs ds → noLs ds = true → DqAll (rm p H) xs ds
  | _, _, .nil, _ => .nil
  | _, _, .cons h t, n => by
    simp only [noLs, Bool.and_eq_true] at n
    exact .cons (dq_rmL' hp h n.1) (dqAll_rmL' hp t n.2)
end
end
/-- data apart from what is new -/
theorem Dq.rmN {H : Hp} {D : Addr} {x : V} {d : PyData} (h : Dq H x d) (hD : H D = none) {H' : Hp} (e : Evl.Ex H H') : Dq (rm D H') x d := by
  refine Dq.ext (fun a o q => ?_) h
  have n : a ≠ D := by rintro rfl; rw [hD] at q; cases q
  rw [rm_ne n]
  exact e _ _ q
theorem DqAll.rmN {H : Hp} {D : Addr} {x : List V} {d : List PyData} (h : DqAll H x d) (hD : H D = none) {H' : Hp} (e : Evl.Ex H H') : DqAll (rm D H') x d := by
  refine DqAll.ext (fun a o q => ?_) h
  have n : a ≠ D := by rintro rfl; rw [hD] at q; cases q
  rw [rm_ne n]
  exact e _ _ q
section
variable {J : It} {n : Nat} {G : Hp → Prop} {Y : Nat → Hp → V → Hp → Prop}
/-- a comprehension whose j-th element is the data dat j -/
theorem lc_rm (w : Walk J n G Y) {g : TG} {te : TE} {vs : List Nat} {σ : L2.St} {H1 : Hp} {D : Addr} {Qd : Hp → Prop} (hD : H1 D = none) (hG : ∀ H', Evl.Ex H1 H' → G H') (dat : Nat → PyData) (hz : n ≤ 100000)
    (hY : ∀ j H2 x H3, j < n → Evl.Ex H1 H2 → Y j H2 x H3 → Evl.Ex H2 H3)
    (hs : ∀ j x H2 H3 acc, j < n → Evl.Ex H1 H2 → Evl.Ex H1 H3 → H3 D = some (.lst acc) → Y j H2 x H3 → ∀ Qt : V → Hp → Prop, (∀ y H4, Evl.Ex H3 H4 → Dq (rm D H4) y (dat j) → Qt y H4) → g x (wipe σ vs) H3 fun σ2 H4 => wipe σ2 vs = wipe σ vs ∧ te σ2 H4 Qt)
    (hd : ∀ H' xs, Evl.Ex H1 H' → H' D = some (.lst xs) → DqAll (rm D H') xs ((List.range n).map dat) → Qd H') :
    ∃ W : Nat → Nat → Hp → Prop, (∃ m, W 0 m (upd H1 D (.lst []))) ∧ ∀ i m H, W i m H →
      (J.stop i H ∧ Qd H) ∨ (J.go i H ∧ ∃ Nx : Hp → Prop, (∀ H', Nx H' → ∃ m', m' < m ∧ W (i + 1) m' H') ∧ ∀ x H', J.yld i H x H' → g x (wipe σ vs) H' fun σ2 H2 => wipe σ2 vs = wipe σ vs ∧ tYes σ2 H2 fun b H3 =>
        if b = true then te σ2 H3 fun y H4 => ∃ acc, H4 D = some (.lst acc) ∧ acc.length < sizeLine ∧ Nx (upd H4 D (.lst (acc ++ [y]))) else Nx H3) := by
  refine lc_it w (fun j H' => Evl.Ex H1 H' ∧ ∃ xs, H' D = some (.lst xs) ∧ DqAll (rm D H') xs ((List.range j).map dat)) ⟨Evl.Ex.new hD, [], upd_same, .nil⟩ (fun i H hi p => hG H p.1) ?_ (fun H ⟨e, xs, a, b⟩ => hd H xs e a b)
  rintro j x H2 H3 hj ⟨e, xs, hd2, hall⟩ hy
  have e3 := hY j H2 x H3 hj e hy
  have q := hs j x H2 H3 xs hj e (e.trans e3) (e3 _ _ hd2) hy (fun y H4 => ∃ acc, H4 D = some (.lst acc) ∧ acc.length < sizeLine ∧ (Evl.Ex H1 (upd H4 D (.lst (acc ++ [y]))) ∧ ∃ xs, (upd H4 D (.lst (acc ++ [y]))) D = some (.lst xs) ∧ DqAll (rm D (upd H4 D (.lst (acc ++ [y])))) xs ((List.range (j + 1)).map dat))) ?_
  · simp only [tYes, if_true]
    exact q
  · intro y H4 e4 hy4
    refine ⟨xs, e4 _ _ (e3 _ _ hd2), ?_, ((e.trans e3).trans e4).mut hD, xs ++ [y], upd_same, ?_⟩
    · rw [DqAll.length hall, List.length_map, List.length_range]
      exact Evl.sz_lt (by omega)
    · rw [rm_same, List.range_succ, List.map_append]
      exact DqAll.app (DqAll.ext (ex_rm (e3.trans e4)) hall) (.cons hy4 .nil)
end
theorem range_map_get {α β : Type} (xs : List α) (f : α → β) (g : Nat → β) (h : ∀ i x, xs[i]? = some x → g i = f x) : (List.range xs.length).map g = xs.map f := map_range_get xs f g h
/-- the j-th of mapped data -/
theorem getD_map {α : Type} (l : List α) (f : α → PyData) {j : Nat} {x : α} (h : l[j]? = some x) : (l.map f).getD j .none = f x := by
  rw [List.getD_eq_getElem?_getD, List.getElem?_map, h]
  rfl
theorem range_getD {ds : List PyData} : (List.range ds.length).map (fun j => ds.getD j .none) = ds := by
  have := map_range_get ds id (fun j => ds.getD j .none) fun i x e => by rw [List.getD_eq_getElem?_getD, e]; rfl
  rw [this, List.map_id]
theorem DqAll.mapGet {H : Hp} {α : Type} {f : α → PyData} {l : List α} {xs : List V} (h : DqAll H xs (l.map f)) {j : Nat} {x : V} (e : xs[j]? = some x) : ∃ a, l[j]? = some a ∧ Dq H x (f a) := by
  obtain ⟨d, hd, q⟩ := h.get e
  rw [List.getElem?_map] at hd
  cases z : l[j]? with
  | none => rw [z] at hd; cases hd
  | some a =>
    rw [z] at hd
    have : f a = d := Option.some.inj hd
    subst this
    exact ⟨a, rfl, q⟩
theorem DqAll.mapGetD {H : Hp} {α : Type} {f : α → PyData} {l : List α} {xs : List V} (h : DqAll H xs (l.map f)) {j : Nat} {a : α} (e : l[j]? = some a) : ∃ x, xs[j]? = some x ∧ Dq H x (f a) :=
  h.getD (by rw [List.getElem?_map, e]; rfl)
end EX2
set_option Elab.async false
set_option linter.all false
set_option maxRecDepth 100000
set_option maxHeartbeats 4000000
/-! x != y, both instances of a class with its own == and no own != -/
namespace EX2
open PySem PySem.Spec PyProof.Rows L2
theorem ne_slot : Slot "object" "__ne__" "object.__ne__" := Slot.of (T := "object") (name := "__ne__") (owner := "object") (n := "__ne__") (by rw [typeLookup_type, builtinLookup_eq_fast]; kernel_rfl) (by decide +kernel) (by decide +kernel) (by decide +kernel)
    (.inl (by decide +kernel)) (by rw [isSubtype_type]; kernel_rfl)
section
variable {prog : Program} {w : World} {A : Around} {E : Value → Shared → Prop} {s : Shared} {K : PySem.W.Frag} {x C f : Addr} {ox : Obj} {od : Option Obj} {y : Value}
open PySem.W
theorem ifBound_B {M : Model} {args : List Value} {Q : Option Value → Shared → Prop} {name : Str} {i : String} (X : K.In s.heap) (I : InstAt s.heap x ox C od) (hs : findIn K (.ref C) name = some (some (.builtin i))) (hb : ∀ self, bindSpecial (.builtin i) self = pure (.builtin i, [self]))
    (h : wpAny M A (call (.builtin i) (.ref x :: args)) (fun v => Q (some v)) E s) : wpAny M A (callSpecialIfBound? (.ref x) name args) Q E s := by
  simp only [callSpecialIfBound?, bindSpecialIfBound?]
  refine wpAny_holding (wpAny_bind (wpAny_bind (wpAny_bind (I.type.here ((looks_findIn X hs).here ?_)))))
  refine wpAny_bind (wpAny_askSetting (wpAny_ite ?_))
  have fin : wpAny M A (call (.builtin i) ([.ref x] ++ args) >>= fun v => pure (some v)) Q E s := wpAny_bind (wpAny_mono h (fun v s' h' => wpAny_pure h') fun _ _ h' => h')
  split
  · exact wpAny_bind ((Looks.of_pure (hb _)).here (wpAny_pure (by exact fin)))
  · exact wpAny_tryCatch (wpAny_bind ((Looks.of_pure (hb _)).here (wpAny_pure (by exact fin))))
theorem tryNe_K {Q : Value → Shared → Prop} (X : K.In s.heap) (I : InstAt s.heap x ox C od) (hn : findIn K (.ref C) "__ne__" = some (some (.builtin "object.__ne__"))) (hs : findIn K (.ref C) "__eq__" = some (some (.ref f))) (hf : isFn K (.ref f) = true)
    (hm : mroIn K C (.type "object") = some true) (hu : A.in1.units < cLine)
    (h : wpAny (model prog w) A.in1 (call (.ref f) [.ref x, y]) (fun v s' => ∃ b, v = .bool b ∧ Q (.bool (!b)) s') E s) :
    wpAny (model prog w) A (tryCompare (.ref x) "__ne__" y) (fun r s' => ∃ v, r = some v ∧ Q v s') E s := by
  have sub : Looks (model prog w) s.heap (isInstance (.ref x) (.type "object")) true := I.type.andThen (looks_mroIn X hm)
  unfold tryCompare
  have ent : wpAny (model prog w) A.in1 (Builtin.«object.__ne__» ⟨[.ref x, y], []⟩)
      (fun fin s' => match fin with | .done f => (wants (fun v s' => v ≠ .notImplemented ∧ Q v s') E) (.ok f) s' | .again c' => c'.quiet = true ∧ codeAny (model prog w) A c' (wants (fun v s' => v ≠ .notImplemented ∧ Q v s') E) s') (fun e s' => (wants (fun v s' => v ≠ .notImplemented ∧ Q v s') E) (.error e) s') s := by
    unfold Builtin.«object.__ne__»
    repeat (first
      | with_reducible refine wpAny_cRoomFor hu ?_
      | (refine wpAny_bind (m := callSpecialIfBound? (.ref x) (Str.ofString "__eq__") [y])
          (ifBound_K X I hs hf (wpAny_mono h (fun r s' hr => by
            obtain ⟨b, rfl, hq⟩ := hr
            have hq2 : (.bool (!b) : Value) ≠ .notImplemented ∧ Q (.bool (!b)) s' := ⟨(fun z => nomatch z), hq⟩
            repeat (first | exact hq2 | exact wpAny_pure hq2 | exact wpAny_truthy_bool hq2 | (refine wpAny_bind (m := truthy (.bool _)) (wpAny_truthy_bool ?_)) | wp_step)) fun _ _ e => e)))
      | wp_step)
  have c : wpAny (model prog w) A (call (.builtin "object.__ne__") [.ref x, y]) (fun v s' => v ≠ .notImplemented ∧ Q v s') E s :=
    wpAny_call (codeAny_call_builtin ne_slot.plain F.cmpEntry_ne (@check_slot (model prog w) _ _ s "object.__ne__" "object" "__ne__" (.ref x) [y] [] _ F.cmpKind_ne F.cmpSplit_ne sub (F.cmpArgs_ne _ _) ent))
  refine wpAny_bind (ifBound_B X I hn ne_slot.bind (wpAny_mono c (fun v s' hv => ?_) fun _ _ e => e))
  obtain ⟨h1, h2⟩ := hv
  cases v <;> first | exact absurd rfl h1 | exact wpAny_pure ⟨_, rfl, h2⟩
end
/-- x != y -/
def rNeI (C : Addr) (sp : Sp) : R2 := fun x y H Q => ∃ (a dx : Addr) (fs : List (Str × V)) (b dy : Addr) (gs : List (Str × V)), x = .ref a ∧ y = .ref b ∧ H a = some (.ins C dx fs) ∧ H b = some (.ins C dy gs) ∧
  sp [.ref a, .ref b] H (fun v H' => ∃ r, v = .bl r ∧ Q (.bl (!r)) H') E0
theorem op_neI {X : Cx} {C f : Addr} {n : Nat} {fd : FuncData} {ps : List Str} {sp : Sp} (F : FnOk X.prog X.w X.K X.mg X.base CX0 n f fd ps sp) (hn : PySem.W.findIn X.K (.ref C) "__ne__" = some (some (.builtin "object.__ne__")))
    (hs : PySem.W.findIn X.K (.ref C) "__eq__" = some (some (.ref f))) (hf : PySem.W.isFn X.K (.ref f) = true) (hm : PySem.W.mroIn X.K C (.type "object") = some true) (hb : Binds X.K fd ps []) (hr : Room (n + 1) X.A) :
    OpR X (compareOp .NotEq) (rNeI C sp) := by
  intro pins s σ H x y v u Q I rx ry h
  obtain ⟨a, dx, fs, b, dy, gs, rfl, rfl, ha, hb', hsp⟩ := h
  cases rx
  cases ry
  show wpAny (model X.prog X.w) X.A (richCompare .NotEq (.ref a) (.ref b)) (EP X pins σ Q) X.xe s
  obtain ⟨mA, J, _⟩ := ins_get I.hok ha
  obtain ⟨od, J, _⟩ := J.look
  obtain ⟨mB, J', _⟩ := ins_get I.hok hb'
  obtain ⟨od', J', _⟩ := J'.look
  obtain ⟨m, hF⟩ := I.fr
  have XK := I.ok.mod.kin.keeps hF.keep
  have hl := F.len _ _ _ _ hsp
  have r2 : Vals [V.ref a, V.ref b] [Value.ref a, Value.ref b] := .cons rfl (.cons rfl .nil)
  have e0 : Env0 X.prog X.w X.K X.mg X.base X.A.in1 X.stack s H := by
    have e := I.env0
    exact ⟨e.frames, e.mod, e.bs, e.bsz, e.funs, e.frf, e.hok, e.bare⟩
  have one : wpAny (model X.prog X.w) X.A (tryCompare (.ref a) "__ne__" (.ref b)) (fun r s' => ∃ v, r = some v ∧ EP X pins σ Q v s') X.xe s := by
    refine tryNe_K (Q := EP X pins σ Q) XK J hn hs hf hm hr.in1.units0 ?_
    refine wpAny_call (codeAny_mono (F.run X.A.in1 X.stack s H ⟨[.ref a, .ref b], []⟩ [.ref a, .ref b] [.ref a, .ref b] _ E0 hr.in1 e0 (by
      have := hb s [.ref a, .ref b] I.kIn (by simpa using hl)
      simpa using this) r2 hsp) fun r s' hq => ?_)
    cases r with
    | error e => exact hq.elim
    | ok fl =>
      cases fl with
      | ret w =>
        obtain ⟨z, H', I', rz, r, ez, q⟩ := I.after hq
        subst ez
        cases rz
        exact ⟨r, rfl, .bl (!r), H', I', rfl, q⟩
      | next => exact False.elim hq
      | brk => exact False.elim hq
      | cont => exact False.elim hq
  unfold richCompare
  simp only [oneThing_ref]
  refine wpAny_holding (wpAny_bind (wpAny_cRoomFor hr.units0 ?_))
  refine wpAny_bind (J.type.here (wpAny_bind (J'.type.here ?_)))
  rw [show (Value.ref C != Value.ref C) = false from by simp]
  simp only [Bool.false_eq_true, if_false]
  refine wpAny_bind (wpAny_pure ?_)
  simp only [Bool.false_eq_true, if_false]
  refine wpAny_bind (wpAny_mono one (fun r s' z => ?_) fun _ _ e => e)
  obtain ⟨v, rfl, hq⟩ := z
  exact wpAny_pure hq
end EX2
set_option Elab.async false
set_option linter.all false
set_option maxRecDepth 100000
set_option maxHeartbeats 0
/-! the parts of a class text -/
namespace K50
open PySem PySem.Spec PyProof.Rows L2 EX2 TX
/-- what the head says of the package's functions of class texts -/
structure CD (w : World) (K : PySem.W.Frag) (mg : Str → Option Value) : Prop where
  dd : DD w K mg
  is_class_name : ∃ f fd, mg "is_class_name" = some (.ref f) ∧ FnP K "is_class_name" (top 28) f fd
  are_marks : ∃ f fd, mg "are_marks" = some (.ref f) ∧ FnP K "are_marks" (top 29) f fd
  is_field : ∃ f fd, mg "is_field" = some (.ref f) ∧ FnP K "is_field" (top 30) f fd
  are_fields : ∃ f fd, mg "are_fields" = some (.ref f) ∧ FnP K "are_fields" (top 31) f fd
  are_methods : ∃ f fd, mg "are_methods" = some (.ref f) ∧ FnP K "are_methods" (top 32) f fd
  parts8 : ∃ t, mg "MOST_PARTS" = some (.int 8 t)
  gTop : ∃ t, mg "TOP_NAME" = some (.str "top" t)
theorem CD.t {w : World} {K : PySem.W.Frag} {mg : Str → Option Value} (D : CD w K mg) : Txt K mg := D.dd.d.t
theorem CD.is_name {w : World} {K : PySem.W.Frag} {mg : Str → Option Value} (D : CD w K mg) : ∃ f fd, mg "is_name" = some (.ref f) ∧ FnP K "is_name" sName f fd := D.dd.d.is_name
theorem CD.is_type {w : World} {K : PySem.W.Frag} {mg : Str → Option Value} (D : CD w K mg) : ∃ f fd, mg "is_type" = some (.ref f) ∧ FnP K "is_type" sType f fd := D.dd.d.is_type
theorem CD.is_sequence {w : World} {K : PySem.W.Frag} {mg : Str → Option Value} (D : CD w K mg) : ∃ f fd, mg "is_sequence" = some (.ref f) ∧ FnP K "is_sequence" ssequence f fd := D.dd.d.is_sequence
/-- names of the law: none is top but where it says so -/
def cnS : List Str := ["a", "b", "c", "d", "zzzzzzzz", "z"]
theorem cnS_ok : ∀ z ∈ cnS, (isNm z = true ∧ z.length ≤ 8 ∧ PyData.strOk z = true) ∧ z ≠ "top" ∧ z ∈ nmS := by decide +kernel
def mkU : List (List Str) := [[], ["a"], ["b"], ["c"], ["d"], ["b", "c"]]
def fnU : List (List Str) := [[], ["f"], ["g"], ["f", "g"]]
def mnU : List (List Str) := [[], ["n"], ["m"], ["n", "m"]]
theorem mkU_ok : ∀ zs ∈ mkU, zs.length ≤ 2 ∧ (canon zs).length = zs.length ∧ ∀ z ∈ zs, z ∈ cnS := by decide +kernel
theorem fnU_ok : ∀ zs ∈ fnU, zs.length ≤ 2 ∧ (canon zs.reverse).length = zs.length ∧ ∀ z ∈ zs, z ∈ fS := by decide +kernel
theorem mnU_ok : ∀ zs ∈ mnU, zs.length ≤ 2 ∧ (canon zs.reverse).length = zs.length ∧ ∀ z ∈ zs, z ∈ fS := by decide +kernel
theorem boot_set : bootBuiltins "set" = some (.type "set") := by kernel_rfl
theorem okz {z : Str} (h : z.length ≤ 8 ∧ PyData.strOk z = true) : okD (.str z) = true := by
  simp only [okD, Bool.and_eq_true, decide_eq_true_eq]
  exact ⟨by omega, h.2⟩
theorem dq_strs {H : Hp} : ∀ {xs : List V} {zs : List Str}, DqAll H xs (zs.map .str) → xs = zs.map V.str
  | _, [], h => by cases h; rfl
  | _, z :: zs, h => by
    cases h with
    | cons h t => cases h; rw [dq_strs t]; rfl
theorem strs_dq {H : Hp} : ∀ (zs : List Str), DqAll H (zs.map V.str) (zs.map .str)
  | [] => .nil
  | z :: zs => .cons (.str z) (strs_dq zs)
def spCN : Sp := fun vs H Q _ => ∃ z, vs = [.str z] ∧ z ∈ cnS ∧ ∀ H', Evl.Ex H H' → Q (.bl true) H'
def spMarks : Sp := fun vs H Q _ => ∃ (x : V) (d : PyData) (zs : List Str), vs = [x] ∧ Dq H x d ∧ itemsOf d = zs.map .str ∧ zs ∈ mkU ∧ seqD 8 d = true ∧ ∀ H', Evl.Ex H H' → Q (.bl true) H'
def fldD (q : Str × Str) : PyData := .tuple [.str q.1, .str q.2]
def FldP (fs : List (Str × Str)) : Prop := fs.map (·.1) ∈ fnU ∧ ∀ q ∈ fs, q.2 ∈ kS
def spFld : Sp := fun vs H Q _ => ∃ (x : V) (q : Str × Str), vs = [x] ∧ Dq H x (fldD q) ∧ q.1 ∈ fS ∧ q.2 ∈ kS ∧ ∀ H', Evl.Ex H H' → Q (.bl true) H'
def spFlds : Sp := fun vs H Q _ => ∃ (x : V) (d : PyData) (fs : List (Str × Str)), vs = [x] ∧ Dq H x d ∧ itemsOf d = fs.map fldD ∧ FldP fs ∧ seqD 8 d = true ∧ ∀ H', Evl.Ex H H' → Q (.bl true) H'
section
variable {P : Program} {w : World} {K : PySem.W.Frag} {mg : Str → Option Value} {base : Heap} {f : Addr} {fd : FuncData}
theorem okis_name (F : FnP K "is_name" sName f fd) (D : CD w K mg) : FnOk P w K mg base CX0 1 f fd ["value"] (spD nameD) := okD_name D.dd.d F
theorem okis_type (F : FnP K "is_type" sType f fd) (D : CD w K mg) : FnOk P w K mg base CX0 2 f fd ["value"] (spD typeD) := okD_type D.dd.d F
theorem okis_sequence (F : FnP K "is_sequence" ssequence f fd) (D : CD w K mg) : FnOk P w K mg base CX0 1 f fd ["obj", "most"] spSeq := ok_seq F D.dd.d
abbrev sis_class_name : Stmt := top 28
abbrev nis_class_name : List Str := ["value"]
theorem scis_class_name : FnScope nis_class_name ["value"] (defScope sis_class_name) := ⟨rfl, rfl, rfl, by decide +kernel, rfl, by decide +kernel, by decide +kernel⟩
theorem okis_class_name (F : FnP K "is_class_name" sis_class_name f fd) (D : CD w K mg) : FnOk P w K mg base CX0 2 f fd ["value"] spCN := by
  have T := D.t
  obtain ⟨tTop, gTop⟩ := D.gTop
  obtain ⟨fis_name, fdis_name, gis_name, Fis_name⟩ := D.is_name
  have Gis_name := okis_name (P := P) (base := base) Fis_name D
  have bis_name : Binds K fdis_name ["value"] [] := Fis_name.bindsN fun _ _ _ _ _ _ us hl => match us, hl with | [_], _ => rfl
  refine F.ok scis_class_name (fun vs H Q E h => ?_) (fun cdv A outer s H vs Q E hr h => ?_)
  · obtain ⟨z, rfl, _⟩ := h
    rfl
  · obtain ⟨z, rfl, hz, hQ⟩ := h
    refine ⟨_, PSs.nox (pss_one (ps_ret (pe_and (pe_call Gis_name (hr.mono (by decide)) rfl gis_name Fis_name.kp bis_name .nil pass0 (pa_cons (pv 0) pa_nil)) (pe_one (pe_cmpR op_ne (pv 0) (pe_glob rfl gTop (v := .str "top") ⟨tTop, rfl⟩) (nomark _)))))), ?_⟩
    obtain ⟨hz1, hz2, _⟩ := cnS_ok z hz
    refine ⟨_, rfl, _, _, rfl, .str z, okz hz1.2, fun H1 e1 => ?_⟩
    refine ⟨_, rfl, ifT (show nameD (.str z) = true from hz1.1) ⟨_, rfl, rfl, ?_⟩⟩
    rw [decide_eq_false (fun e => hz2 (V.str.inj e))]
    exact hQ H1 e1
abbrev sare_marks : Stmt := top 29
abbrev nare_marks : List Str := ["value", "mark"]
theorem scare_marks : FnScope nare_marks ["value"] (defScope sare_marks) := ⟨rfl, rfl, rfl, by decide +kernel, rfl, by decide +kernel, by decide +kernel⟩
theorem okare_marks (F : FnP K "are_marks" sare_marks f fd) (D : CD w K mg) : FnOk P w K mg base CX0 3 f fd ["value"] spMarks := by
  have T := D.t
  obtain ⟨t8, g8⟩ := D.parts8
  obtain ⟨fis_class_name, fdis_class_name, gis_class_name, Fis_class_name⟩ := D.is_class_name
  have Gis_class_name := okis_class_name (P := P) (base := base) Fis_class_name D
  have bis_class_name : Binds K fdis_class_name ["value"] [] := Fis_class_name.bindsN fun _ _ _ _ _ _ us hl => match us, hl with | [_], _ => rfl
  obtain ⟨fis_sequence, fdis_sequence, gis_sequence, Fis_sequence⟩ := D.is_sequence
  have Gis_sequence := okis_sequence (P := P) (base := base) Fis_sequence D
  have bis_sequence : Binds K fdis_sequence ["obj", "most"] [] := Fis_sequence.bindsN fun _ _ _ _ _ _ us hl => match us, hl with | [_, _], _ => rfl
  refine F.ok scare_marks (fun vs H Q E h => ?_) (fun cdv A outer s H vs Q E hr h => ?_)
  · obtain ⟨x, d, zs, rfl, _⟩ := h
    rfl
  · obtain ⟨x, d, zs, rfl, hd, hit, hu, hk, hQ⟩ := h
    refine ⟨_, PSs.nox (pss_cons (ps_if (PW.pt (pw_or (pt_not (pt_val (pe_call Gis_sequence (hr.mono (by decide)) rfl gis_sequence Fis_sequence.kp bis_sequence .nil pass0 (pa_cons (pv 0) (pa_cons (pe_glob rfl g8 (v := .int 8) ⟨t8, rfl⟩) pa_nil))))) (pw_or1 (pt_not (pt_val (pe_callB (cr_all rfl) rfl T.all boot_all (pa_cons (pe_lc (own := [("mark", 1)]) (g := gName 1) (tt := tYes) rfl scare_marks.nd (pi_seqq (pv 0)) (blkOk_by (N := nare_marks) (sc := defScope sare_marks) (by decide +kernel)) (fun _ _ _ _ _ => (pg_name (i := 1) scare_marks.nd rfl (Or.inl rfl))) (fun _ _ _ _ _ => pts_nil) (fun _ _ _ _ _ => (pe_call Gis_class_name (hr.mono (by decide)) rfl gis_class_name Fis_class_name.kp bis_class_name .nil pass0 (pa_cons (pv 1) pa_nil)))) pa_nil)))))))
        (pss_one (ps_ret pe_bl))
        pss_nil)
      (pss_one (ps_ret (pe_cmpR op_eq (pe_callB call_lenS rfl T.len boot_len (pa_cons (pe_callTy (r := rSetS K w) (cr_setS rfl) rfl T.set boot_set (pa_cons (pv 0) pa_nil)) pa_nil)) (pe_callB call_len rfl T.len boot_len (pa_cons (pv 0) pa_nil)) (nomark _))))), ?_⟩
    obtain ⟨hl2, hcan, hzs⟩ := mkU_ok zs hu
    have hsb : 3 < scanBound := by decide
    refine ⟨_, rfl, x, d, 8, rfl, hd, fun H1 e1 => ⟨_, rfl, ?_⟩⟩
    refine ifF (by rw [hk]; rfl) ?_
    obtain ⟨pa, pxs, rfl, hpa, hpall, hpl⟩ := seq_sq (K := K) (hd.ext e1) hk
    rw [hit] at hpall
    have hxs := dq_strs hpall
    have hplen : pxs.length = zs.length := by rw [hxs, List.length_map]
    have hp0 := hpa
    rcases hp0 with hp0 | hp0
    case' inl =>
      refine ⟨_, rfl, pa, rfl, .inl ⟨⟨_, SqL.of hp0⟩, fun L hL => ?_⟩⟩
      have wJ := (walk_list (K := K) (a := pa) (xs := pxs)).mono (G' := fun H' => H' pa = H1 pa) (fun H' e => SqL.of (e.trans hp0)) fun _ _ _ _ _ _ y => y
    case' inr =>
      refine ⟨_, rfl, pa, rfl, .inr ⟨⟨_, SqT.of hp0⟩, fun L hL => ?_⟩⟩
      have wJ := (walk_tup (K := K) (a := pa) (xs := pxs)).mono (G' := fun H' => H' pa = H1 pa) (fun H' e => SqT.of (e.trans hp0)) fun _ _ _ _ _ _ y => y
    all_goals
      refine lc_map wJ hL (fun H' e => ex_or e hpa) (fun _ => .bl true) (by omega) (fun j H3 x H4 _ _ y => by rw [y.1]; exact Evl.Ex.refl _) ?_ ?_
      · rintro j x H3 H4 hj e3 _ ⟨rfl, hx⟩ Qt hQt
        obtain ⟨z, hz, rfl⟩ : ∃ z ∈ zs, x = .str z := by
          rw [hxs] at hx
          obtain ⟨z, hz, rfl⟩ := List.mem_map.mp (List.mem_of_getElem? hx)
          exact ⟨z, hz, rfl⟩
        exact ⟨rfl, _, rfl, z, rfl, hzs z hz, hQt⟩
      intro H3 e3 hL3
      refine ⟨L, (List.range pxs.length).map fun _ => true, rfl, SqL.of (by rw [hL3, List.map_map]; rfl), ?_⟩
      rw [show ((List.range pxs.length).map fun _ => true).all id = true from by simp]
      refine ⟨_, rfl, iteF ?_⟩
      have hpa3 : H3 pa = some (.lst pxs) ∨ H3 pa = some (.tup pxs) := by rw [ex_or e3 hpa]; exact hpa
      have hs3 : SqL K H3 pa (zs.map V.str) ∨ SqT K H3 pa (zs.map V.str) := by rw [← hxs]; exact hpa3.imp SqL.of SqT.of
      refine ⟨_, rfl, pa, zs, rfl, hs3, by omega, fun p hp => ⟨p, zs, rfl, upd_same, ?_⟩⟩
      have e4 := Evl.Ex.new (o := SetSO w p zs) hp
      refine ⟨_, rfl, _, _, rfl, len_of (by rw [ex_or e4 hpa3]; exact hpa3), rfl, ?_⟩
      rw [hcan, hplen, decide_eq_true rfl]
      exact hQ _ ((e1.trans e3).trans e4)
abbrev sis_field : Stmt := top 30
abbrev nis_field : List Str := ["value"]
theorem scis_field : FnScope nis_field ["value"] (defScope sis_field) := ⟨rfl, rfl, rfl, by decide +kernel, rfl, by decide +kernel, by decide +kernel⟩
theorem okis_field (F : FnP K "is_field" sis_field f fd) (D : CD w K mg) : FnOk P w K mg base CX0 3 f fd ["value"] spFld := by
  have T := D.t
  obtain ⟨fis_type, fdis_type, gis_type, Fis_type⟩ := D.is_type
  have Gis_type := okis_type (P := P) (base := base) Fis_type D
  have bis_type : Binds K fdis_type ["value"] [] := Fis_type.bindsN fun _ _ _ _ _ _ us hl => match us, hl with | [_], _ => rfl
  obtain ⟨fis_name, fdis_name, gis_name, Fis_name⟩ := D.is_name
  have Gis_name := okis_name (P := P) (base := base) Fis_name D
  have bis_name : Binds K fdis_name ["value"] [] := Fis_name.bindsN fun _ _ _ _ _ _ us hl => match us, hl with | [_], _ => rfl
  refine F.ok scis_field (fun vs H Q E h => ?_) (fun cdv A outer s H vs Q E hr h => ?_)
  · obtain ⟨x, q, rfl, _⟩ := h
    rfl
  · obtain ⟨x, q, rfl, hd, hq1, hq2, hQ⟩ := h
    refine ⟨_, PSs.nox (pss_one (ps_ret (pe_and (pe_callB call_isi rfl T.isi boot_isi (pa_cons (pv 0) (pa_cons (pe_bltn rfl T.tup boot_tuple (v := .ty "tuple") rfl) pa_nil))) (pe_and (pe_cmpR op_eq (pe_callB call_len rfl T.len boot_len (pa_cons (pv 0) pa_nil)) pe_int (nomark _)) (pe_and (pe_call Gis_name (hr.mono (by decide)) rfl gis_name Fis_name.kp bis_name .nil pass0 (pa_cons (pe_ix ix_tup (pv 0) pe_int (fun _ _ => rfl)) pa_nil)) (pe_one (pe_call Gis_type (hr.mono (by decide)) rfl gis_type Fis_type.kp bis_type .nil pass0 (pa_cons (pe_ix ix_tup (pv 0) pe_int (fun _ _ => rfl)) pa_nil)))))))), ?_⟩
    obtain ⟨a, vs, rfl, ha, hall⟩ := Dq.tupI (show Dq H x (.tuple [.str q.1, .str q.2]) from hd)
    have hvs := dq_strs (zs := [q.1, q.2]) hall
    subst hvs
    refine ⟨_, rfl, _, _, _, _, true, rfl, .ty "tuple", .base (.tup ha), kit_ty (by decide +kernel : kitB "tuple" "tuple" = some true), _, rfl, iteT ?_⟩
    refine ⟨_, rfl, _, _, rfl, .inr ⟨_, SqT.of ha, rfl⟩, rfl, _, rfl, ifT rfl ?_⟩
    refine ⟨_, rfl, a, _, _, _, rfl, rfl, SqT.of ha, atI_nat (j := 0) rfl, _, _, rfl, .str _, okz (fS_ok _ hq1).2, fun H1 e1 => ?_⟩
    refine ⟨_, rfl, ifT (show nameD (.str q.1) = true from (fS_ok _ hq1).1) ?_⟩
    refine ⟨_, rfl, a, _, _, _, rfl, rfl, SqT.of (e1 _ _ ha), atI_nat (j := 1) rfl, _, _, rfl, .str _, okz (kS_ok _ hq2).2, fun H2 e2 => ?_⟩
    rw [show typeD (.str q.2) = true from (kS_ok _ hq2).1]
    exact hQ _ (e1.trans e2)
abbrev sare_fields : Stmt := top 31
abbrev nare_fields : List Str := ["value", "field", "name", "kind"]
theorem scare_fields : FnScope nare_fields ["value"] (defScope sare_fields) := ⟨rfl, rfl, rfl, by decide +kernel, rfl, by decide +kernel, by decide +kernel⟩
theorem okare_fields (F : FnP K "are_fields" sare_fields f fd) (D : CD w K mg) : FnOk P w K mg base CX0 4 f fd ["value"] spFlds := by
  have T := D.t
  obtain ⟨t8, g8⟩ := D.parts8
  obtain ⟨fis_field, fdis_field, gis_field, Fis_field⟩ := D.is_field
  have Gis_field := okis_field (P := P) (base := base) Fis_field D
  have bis_field : Binds K fdis_field ["value"] [] := Fis_field.bindsN fun _ _ _ _ _ _ us hl => match us, hl with | [_], _ => rfl
  obtain ⟨fis_sequence, fdis_sequence, gis_sequence, Fis_sequence⟩ := D.is_sequence
  have Gis_sequence := okis_sequence (P := P) (base := base) Fis_sequence D
  have bis_sequence : Binds K fdis_sequence ["obj", "most"] [] := Fis_sequence.bindsN fun _ _ _ _ _ _ us hl => match us, hl with | [_, _], _ => rfl
  refine F.ok scare_fields (fun vs H Q E h => ?_) (fun cdv A outer s H vs Q E hr h => ?_)
  · obtain ⟨x, d, fs, rfl, _⟩ := h
    rfl
  · obtain ⟨x, d, fs, rfl, hd, hit, ⟨hu, hks⟩, hk, hQ⟩ := h
    refine ⟨_, PSs.nox (pss_cons (ps_if (PW.pt (pw_or (pt_not (pt_val (pe_call Gis_sequence (hr.mono (by decide)) rfl gis_sequence Fis_sequence.kp bis_sequence .nil pass0 (pa_cons (pv 0) (pa_cons (pe_glob rfl g8 (v := .int 8) ⟨t8, rfl⟩) pa_nil))))) (pw_or1 (pt_not (pt_val (pe_callB (cr_all rfl) rfl T.all boot_all (pa_cons (pe_lc (own := [("field", 1)]) (g := gName 1) (tt := tYes) rfl scare_fields.nd (pi_seqq (pv 0)) (blkOk_by (N := nare_fields) (sc := defScope sare_fields) (by decide +kernel)) (fun _ _ _ _ _ => (pg_name (i := 1) scare_fields.nd rfl (Or.inl rfl))) (fun _ _ _ _ _ => pts_nil) (fun _ _ _ _ _ => (pe_call Gis_field (hr.mono (by decide)) rfl gis_field Fis_field.kp bis_field .nil pass0 (pa_cons (pv 1) pa_nil)))) pa_nil)))))))
        (pss_one (ps_ret pe_bl))
        pss_nil)
      (pss_one (ps_ret (pe_cmpR op_eq (pe_callB call_lenS rfl T.len boot_len (pa_cons (pe_scS (own := [("name", 2), ("kind", 3)]) (g := gTup K 2 (gCons (gName 2) (gCons (gName 3) gNil))) rfl scare_fields.nd (pi_seqq (pv 0)) (blkOk_by (N := nare_fields) (sc := defScope sare_fields) (by decide +kernel)) (fun _ _ _ _ _ => pg_tup rfl (pgs_cons (pg_name (i := 2) scare_fields.nd rfl (Or.inl rfl)) (pgs_cons (pg_name (i := 3) scare_fields.nd rfl (Or.inl rfl)) pgs_nil))) (fun _ _ _ _ _ => pts_nil) (fun _ _ _ _ _ => pv 2)) pa_nil)) (pe_callB call_len rfl T.len boot_len (pa_cons (pv 0) pa_nil)) (nomark _))))), ?_⟩
    obtain ⟨hl2, hcan, hzs⟩ := fnU_ok _ hu
    rw [List.length_map] at hl2 hcan
    have hsb : 3 < scanBound := by decide
    refine ⟨_, rfl, x, d, 8, rfl, hd, fun H1 e1 => ⟨_, rfl, ?_⟩⟩
    refine ifF (by rw [hk]; rfl) ?_
    obtain ⟨pa, pxs, rfl, hpa, hpall, hpl⟩ := seq_sq (K := K) (hd.ext e1) hk
    rw [hit] at hpall
    have hplen : pxs.length = fs.length := by rw [hpall.length, List.length_map]
    have hget : ∀ {j : Nat} {x : V}, pxs[j]? = some x → ∃ q, fs[j]? = some q ∧ Dq H1 x (fldD q) := fun e => hpall.mapGet e
    have hp0 := hpa
    rcases hp0 with hp0 | hp0
    case' inl =>
      refine ⟨_, rfl, pa, rfl, .inl ⟨⟨_, SqL.of hp0⟩, fun L hL => ?_⟩⟩
      have wJ := (walk_list (K := K) (a := pa) (xs := pxs)).mono (G' := fun H' => H' pa = H1 pa) (fun H' e => SqL.of (e.trans hp0)) fun _ _ _ _ _ _ y => y
    case' inr =>
      refine ⟨_, rfl, pa, rfl, .inr ⟨⟨_, SqT.of hp0⟩, fun L hL => ?_⟩⟩
      have wJ := (walk_tup (K := K) (a := pa) (xs := pxs)).mono (G' := fun H' => H' pa = H1 pa) (fun H' e => SqT.of (e.trans hp0)) fun _ _ _ _ _ _ y => y
    all_goals
      refine lc_map wJ hL (fun H' e => ex_or e hpa) (fun _ => .bl true) (by omega) (fun j H3 x H4 _ _ y => by rw [y.1]; exact Evl.Ex.refl _) ?_ ?_
      · rintro j x H3 H4 hj e3 _ ⟨rfl, hx⟩ Qt hQt
        obtain ⟨q, hq, hxq⟩ := hget hx
        have hqm := List.mem_of_getElem? hq
        exact ⟨rfl, _, rfl, x, q, rfl, hxq.ext e3, hzs _ (List.mem_map.mpr ⟨q, hqm, rfl⟩), hks q hqm, hQt⟩
      intro H3 e3 hL3
      refine ⟨L, (List.range pxs.length).map fun _ => true, rfl, SqL.of (by rw [hL3, List.map_map]; rfl), ?_⟩
      rw [show ((List.range pxs.length).map fun _ => true).all id = true from by simp]
      refine ⟨_, rfl, iteF ?_⟩
      have hpa3 : H3 pa = some (.lst pxs) ∨ H3 pa = some (.tup pxs) := by rw [ex_or e3 hpa]; exact hpa
      clear wJ
      have hp3 := hpa3
      rcases hp3 with hp3 | hp3
      case' inl =>
        refine ⟨_, rfl, pa, rfl, .inl ⟨⟨_, SqL.of hp3⟩, fun D hD => ?_⟩⟩
        have wJ := (walk_list (K := K) (a := pa) (xs := pxs)).mono (G' := fun H' => H' pa = H3 pa) (fun H' e => SqL.of (e.trans hp3)) fun _ _ _ _ _ _ y => y
      case' inr =>
        refine ⟨_, rfl, pa, rfl, .inr ⟨⟨_, SqT.of hp3⟩, fun D hD => ?_⟩⟩
        have wJ := (walk_tup (K := K) (a := pa) (xs := pxs)).mono (G' := fun H' => H' pa = H3 pa) (fun H' e => SqT.of (e.trans hp3)) fun _ _ _ _ _ _ y => y
      all_goals
        have npD : pa ≠ D := fun e => by rw [e, hD] at hpa3; rcases hpa3 with q | q <;> cases q
        refine scS_it wJ (fun i H' => Evl.Ex H3 H' ∧ H' D = some (SetSO w D ((fs.take i).map (·.1)).reverse)) ⟨Evl.Ex.new hD, upd_same⟩ (fun i H' _ q => ex_or q.1 hpa3) ?_ ?_
        · rintro i x H4 H5 hi ⟨e4, hD4⟩ ⟨rfl, hx⟩
          obtain ⟨q, hq, hxq⟩ := hget hx
          obtain ⟨a, vs, rfl, ha, hall⟩ := Dq.tupI (show Dq H1 x (.tuple [.str q.1, .str q.2]) from hxq)
          have hvs := dq_strs (zs := [q.1, q.2]) hall
          subst hvs
          refine ⟨a, _, rfl, SqT.of (e4 _ _ (e3 _ _ ha)), rfl, ?_⟩
          refine ⟨_, _, rfl, _, _, rfl, rfl, rfl, ?_⟩
          have hcl := canon_len ((fs.take i).map (·.1)).reverse
          rw [List.length_reverse, List.length_map, List.length_take] at hcl
          unfold tYes
          dsimp only
          rw [if_pos rfl]
          refine ⟨_, rfl, q.1, _, rfl, hD4, by omega, e4.mut hD, ?_⟩
          rw [upd_same, List.take_succ, hq, List.map_append, List.reverse_append]
          rfl
        · rintro H4 ⟨e4, hD4⟩
          rw [hplen, List.take_length] at hD4
          refine ⟨D, _, rfl, hD4, ?_⟩
          refine ⟨_, rfl, _, _, rfl, len_of (by rw [ex_or e4 hpa3]; exact hpa3), rfl, ?_⟩
          rw [hcan, hplen, decide_eq_true rfl]
          exact hQ _ ((e1.trans e3).trans e4)
/-- a method as its parts -/
structure Mt where
  name : Str
  params : List Str
  result : Str
  size : Nat
  code : List PyData
structure MtP (m : Mt) : Prop where
  np : m.params.length ≤ 2
  kp : ∀ z ∈ m.params, z ∈ kS
  kr : m.result ∈ kS
  sz : m.size = 5 ∨ m.size = 4
  cd : CodP m.code
  kc : codeD m.size (.list m.code) = true
def MtAt (C : Addr) (H : Hp) (v : V) (m : Mt) : Prop := ∃ (x dx : Addr) (p c : V), v = .ref x ∧ H x = some (.ins C dx (mfields (.str m.name) p (.str m.result) (.int m.size) c)) ∧ Dq H p (.tuple (m.params.map .str)) ∧ Dq H c (.tuple m.code)
theorem MtAt.ext {C : Addr} {H H' : Hp} {v : V} {m : Mt} (h : MtAt C H v m) (e : Evl.Ex H H') : MtAt C H' v m := by
  obtain ⟨x, dx, p, c, h1, h2, h3, h4⟩ := h
  exact ⟨x, dx, p, c, h1, e _ _ h2, h3.ext e, h4.ext e⟩
/-- lists side by side -/
inductive All2 {α β : Type} (R : α → β → Prop) : List α → List β → Prop
  | nil : All2 R [] []
  | cons {a : α} {b : β} {as : List α} {bs : List β} (h : R a b) (t : All2 R as bs) : All2 R (a :: as) (b :: bs)
theorem All2.length {α β : Type} {R : α → β → Prop} {as : List α} {bs : List β} (h : All2 R as bs) : as.length = bs.length := by
  induction h with
  | nil => rfl
  | cons _ _ ih => rw [List.length_cons, List.length_cons, ih]
theorem All2.get {α β : Type} {R : α → β → Prop} {as : List α} {bs : List β} (h : All2 R as bs) : ∀ {i : Nat} {a : α}, as[i]? = some a → ∃ b, bs[i]? = some b ∧ R a b := by
  induction h with
  | nil => intro i a e; simp at e
  | cons h _ ih =>
    intro i a e
    cases i with
    | zero => simp only [List.getElem?_cons_zero, Option.some.injEq] at e ⊢; subst e; exact ⟨_, rfl, h⟩
    | succ i => simp only [List.getElem?_cons_succ] at e ⊢; exact ih e
theorem All2.imp {α β : Type} {R S : α → β → Prop} (q : ∀ a b, R a b → S a b) {as : List α} {bs : List β} (h : All2 R as bs) : All2 S as bs := by
  induction h with
  | nil => exact .nil
  | cons h _ ih => exact .cons (q _ _ h) ih
theorem All2.app {α β : Type} {R : α → β → Prop} {as cs : List α} {bs ds : List β} (h : All2 R as bs) (g : All2 R cs ds) : All2 R (as ++ cs) (bs ++ ds) := by
  induction h with
  | nil => exact g
  | cons h _ ih => exact .cons h ih
def MtsP (ms : List Mt) : Prop := ms.map (·.name) ∈ mnU ∧ ∀ m ∈ ms, MtP m
/-- getters of Method -/
def GetM (P : Program) (w : World) (K : PySem.W.Frag) (mg : Str → Option Value) (base : Heap) (c x own : Str) : Prop :=
  PropOf K (He.ga K c) x (prA K c x) (prG c x K) ∧ ∃ fd, FnOk P w K mg base CX0 1 (prG c x K) fd ["self"] (getSp (He.ga K c) own) ∧ Binds K fd ["self"] []
def spMts (C : Addr) : Sp := fun vs H Q _ => ∃ (a : Addr) (xs : List V) (ms : List Mt), vs = [.ref a] ∧ (H a = some (.lst xs) ∨ H a = some (.tup xs)) ∧ All2 (MtAt C H) xs ms ∧ MtsP ms ∧ ∀ H', Evl.Ex H H' → Q (.bl true) H'
/-- is_sequence of any list or tuple -/
def spSeq2 : Sp := fun vs H Q _ => ∃ (a : Addr) (xs : List V) (m : Int), vs = [.ref a, .int m] ∧ (H a = some (.lst xs) ∨ H a = some (.tup xs)) ∧ (xs.length : Int) ≤ m ∧ ∀ H', Evl.Ex H H' → Q (.bl true) H'
theorem ok_seq2 (F : FnP K "is_sequence" ssequence f fd) (D : CD w K mg) : FnOk P w K mg base CX0 1 f fd ["obj", "most"] spSeq2 := by
  have T := D.t
  refine F.ok scseq (fun vs H Q E h => ?_) (fun cdv A outer s H vs Q E hr h => ?_)
  · obtain ⟨x, d, m, rfl, _⟩ := h
    rfl
  · obtain ⟨a, xs, m, rfl, hd, hm, hQ⟩ := h
    refine ⟨_, PSs.nox (pss_one (ps_ret (pe_and (pe_callB call_isiT rfl T.isi boot_isi (pa_cons (pv 0) (pa_cons (pe_tup (pa_cons (pe_bltn rfl T.lst boot_list (v := .ty "list") rfl) (pa_cons (pe_bltn rfl T.tup boot_tuple (v := .ty "tuple") rfl) pa_nil))) pa_nil))) (pe_one (pe_cmpR op_le (pe_callB call_len rfl T.len boot_len (pa_cons (pv 0) pa_nil)) (pv 1) (nomark _)))))), ?_⟩
    refine ⟨_, rfl, le_line (by simp), fun t1 h1 => ?_⟩
    have e1 := Evl.Ex.new (o := .tup [.ty "list", .ty "tuple"]) h1
    have q := hQ _ e1
    rcases hd with ha | ha
    · refine ⟨.ref a, t1, _, _, _, _, rfl, upd_same, .cons (.ty _) (.cons (.ty _) .nil), .base (.lst (e1 _ _ ha)), kit_list2 (.list []), _, rfl, iteT ⟨_, rfl, _, _, rfl, .inl ⟨_, SqL.of (e1 _ _ ha), rfl⟩, _, rfl, _, _, rfl, rfl, ?_⟩⟩
      have q' : Q (.bl (decide ((xs.length : Int) ≤ m))) (upd H t1 (.tup [.ty "list", .ty "tuple"])) := by rw [decide_eq_true hm]; exact q
      exact q'
    · refine ⟨.ref a, t1, _, _, _, _, rfl, upd_same, .cons (.ty _) (.cons (.ty _) .nil), .base (.tup (e1 _ _ ha)), kit_list2 (.tuple []), _, rfl, iteT ⟨_, rfl, _, _, rfl, .inr ⟨_, SqT.of (e1 _ _ ha), rfl⟩, _, rfl, _, _, rfl, rfl, ?_⟩⟩
      have q' : Q (.bl (decide ((xs.length : Int) ≤ m))) (upd H t1 (.tup [.ty "list", .ty "tuple"])) := by rw [decide_eq_true hm]; exact q
      exact q'
abbrev sare_methods : Stmt := top 32
abbrev nare_methods : List Str := ["value", "method"]
theorem scare_methods : FnScope nare_methods ["value"] (defScope sare_methods) := ⟨rfl, rfl, rfl, by decide +kernel, rfl, by decide +kernel, by decide +kernel⟩
theorem okare_methods (F : FnP K "are_methods" sare_methods f fd) (D : CD w K mg) (M : MethF K mg) (IF : InsF K (He.ga K "Method")) (gN : GetM P w K mg base "Method" "name" "own_name") : FnOk P w K mg base CX0 3 f fd ["value"] (spMts (He.ga K "Method")) := by
  have T := D.t
  obtain ⟨t8, g8⟩ := D.parts8
  obtain ⟨hPr, fdN, GN, bN⟩ := gN
  obtain ⟨fis_sequence, fdis_sequence, gis_sequence, Fis_sequence⟩ := D.is_sequence
  have Gis_sequence := okis_sequence (P := P) (base := base) Fis_sequence D
  have bis_sequence : Binds K fdis_sequence ["obj", "most"] [] := Fis_sequence.bindsN fun _ _ _ _ _ _ us hl => match us, hl with | [_, _], _ => rfl
  refine F.ok scare_methods (fun vs H Q E h => ?_) (fun cdv A outer s H vs Q E hr h => ?_)
  · obtain ⟨a, xs, ms, rfl, _⟩ := h
    rfl
  · obtain ⟨pa, pxs, ms, rfl, hpa0, hall, ⟨hu, hms⟩, hQ⟩ := h
    refine ⟨_, PSs.nox (pss_cons (ps_if (PW.pt (pw_or (pt_not (pt_val (pe_call (ok_seq2 (P := P) (base := base) Fis_sequence D) (hr.mono (by decide)) rfl gis_sequence Fis_sequence.kp bis_sequence .nil pass0 (pa_cons (pv 0) (pa_cons (pe_glob rfl g8 (v := .int 8) ⟨t8, rfl⟩) pa_nil))))) (pw_or1 (pt_not (pt_val (pe_callB (cr_all rfl) rfl T.all boot_all (pa_cons (pe_lc (own := [("method", 1)]) (g := gName 1) (tt := tYes) rfl scare_methods.nd (pi_seqq (pv 0)) (blkOk_by (N := nare_methods) (sc := defScope sare_methods) (by decide +kernel)) (fun _ _ _ _ _ => (pg_name (i := 1) scare_methods.nd rfl (Or.inl rfl))) (fun _ _ _ _ _ => pts_nil) (fun _ _ _ _ _ => (pe_callB (r := rIsi K) call_isi rfl T.isi boot_isi (pa_cons (pv 1) (pa_cons (pe_glob rfl M.hm (v := .ref (He.ga K "Method")) rfl) pa_nil))))) pa_nil)))))))
        (pss_one (ps_ret pe_bl))
        pss_nil)
      (pss_one (ps_ret (pe_cmpR op_eq (pe_callB call_lenS rfl T.len boot_len (pa_cons (pe_scS (own := [("method", 1)]) (g := gName 1) rfl scare_methods.nd (pi_seqq (pv 0)) (blkOk_by (N := nare_methods) (sc := defScope sare_methods) (by decide +kernel)) (fun _ _ _ _ _ => (pg_name (i := 1) scare_methods.nd rfl (Or.inl rfl))) (fun _ _ _ _ _ => pts_nil) (fun _ _ _ _ _ => pe_prop (pv 1) M.cl hPr GN hr bN .nil pass0 (by rfl))) pa_nil)) (pe_callB call_len rfl T.len boot_len (pa_cons (pv 0) pa_nil)) (nomark _))))), ?_⟩
    obtain ⟨hl2, hcan, hzs⟩ := mnU_ok _ hu
    rw [List.length_map] at hl2 hcan
    have hsb : 3 < scanBound := by decide
    have hplen := hall.length
    refine ⟨_, rfl, pa, pxs, 8, rfl, hpa0, by omega, fun H1 e1 => ⟨_, rfl, iteF ?_⟩⟩
    have hpa : H1 pa = some (.lst pxs) ∨ H1 pa = some (.tup pxs) := by rw [ex_or e1 hpa0]; exact hpa0
    have hp0 := hpa
    rcases hp0 with hp0 | hp0
    case' inl =>
      refine ⟨_, rfl, pa, rfl, .inl ⟨⟨_, SqL.of hp0⟩, fun L hL => ?_⟩⟩
      have wJ := (walk_list (K := K) (a := pa) (xs := pxs)).mono (G' := fun H' => H' pa = H1 pa) (fun H' e => SqL.of (e.trans hp0)) fun _ _ _ _ _ _ y => y
    case' inr =>
      refine ⟨_, rfl, pa, rfl, .inr ⟨⟨_, SqT.of hp0⟩, fun L hL => ?_⟩⟩
      have wJ := (walk_tup (K := K) (a := pa) (xs := pxs)).mono (G' := fun H' => H' pa = H1 pa) (fun H' e => SqT.of (e.trans hp0)) fun _ _ _ _ _ _ y => y
    all_goals
      refine lc_map wJ hL (fun H' e => ex_or e hpa) (fun _ => .bl true) (by omega) (fun j H3 x H4 _ _ y => by rw [y.1]; exact Evl.Ex.refl _) ?_ ?_
      · rintro j x H3 H4 hj e3 _ ⟨rfl, hx⟩ Qt hQt
        obtain ⟨m, hm, x', dx, p, c, rfl, hins, _, _⟩ := hall.get hx
        refine ⟨rfl, _, rfl, _, _, _, _, _, rfl, .own _, .base (.ins (e3 _ _ (e1 _ _ hins)) M.cl IF.ha IF.hn IF.ht IF.hm), IF.kc, hQt _ (Evl.Ex.refl _)⟩
      intro H3 e3 hL3
      refine ⟨L, (List.range pxs.length).map fun _ => true, rfl, SqL.of (by rw [hL3, List.map_map]; rfl), ?_⟩
      rw [show ((List.range pxs.length).map fun _ => true).all id = true from by simp]
      refine ⟨_, rfl, iteF ?_⟩
      have hpa3 : H3 pa = some (.lst pxs) ∨ H3 pa = some (.tup pxs) := by rw [ex_or e3 hpa]; exact hpa
      clear wJ
      have hp3 := hpa3
      rcases hp3 with hp3 | hp3
      case' inl =>
        refine ⟨_, rfl, pa, rfl, .inl ⟨⟨_, SqL.of hp3⟩, fun D hD => ?_⟩⟩
        have wJ := (walk_list (K := K) (a := pa) (xs := pxs)).mono (G' := fun H' => H' pa = H3 pa) (fun H' e => SqL.of (e.trans hp3)) fun _ _ _ _ _ _ y => y
      case' inr =>
        refine ⟨_, rfl, pa, rfl, .inr ⟨⟨_, SqT.of hp3⟩, fun D hD => ?_⟩⟩
        have wJ := (walk_tup (K := K) (a := pa) (xs := pxs)).mono (G' := fun H' => H' pa = H3 pa) (fun H' e => SqT.of (e.trans hp3)) fun _ _ _ _ _ _ y => y
      all_goals
        have npD : pa ≠ D := fun e => by rw [e, hD] at hpa3; rcases hpa3 with q | q <;> cases q
        refine scS_it wJ (fun i H' => Evl.Ex H3 H' ∧ H' D = some (SetSO w D ((ms.take i).map (·.name)).reverse)) ⟨Evl.Ex.new hD, upd_same⟩ (fun i H' _ q => ex_or q.1 hpa3) ?_ ?_
        · rintro i x H4 H5 hi ⟨e4, hD4⟩ ⟨rfl, hx⟩
          obtain ⟨m, hm, x', dx, p, c, rfl, hins, _, _⟩ := hall.get hx
          have hcl := canon_len ((ms.take i).map (·.name)).reverse
          rw [List.length_reverse, List.length_map, List.length_take] at hcl
          have hi2 := e4 _ _ (e3 _ _ (e1 _ _ hins))
          refine ⟨rfl, ?_⟩
          unfold tYes
          dsimp only
          rw [if_pos rfl]
          refine ⟨_, rfl, x', dx, _, rfl, hi2, x', dx, _, _, rfl, hi2, rfl, m.name, _, rfl, hD4, by omega, e4.mut hD, ?_⟩
          rw [upd_same, List.take_succ, hm, List.map_append, List.reverse_append]
          rfl
        · rintro H4 ⟨e4, hD4⟩
          rw [hplen, List.take_length] at hD4
          refine ⟨D, _, rfl, hD4, ?_⟩
          refine ⟨_, rfl, _, _, rfl, len_of (by rw [ex_or e4 hpa3]; exact hpa3), rfl, ?_⟩
          rw [hcan, hplen, decide_eq_true rfl]
          exact hQ _ ((e1.trans e3).trans e4)
end
end K50

set_option Elab.async false
set_option linter.all false
set_option maxRecDepth 100000
set_option maxHeartbeats 0
/-! class texts made, their parts, == -/
namespace EX2
open PySem PySem.Spec PyProof.Rows L2
/-- what is never reached -/
theorem pss_no {X : Cx} {b : List Stmt} : PSs X b (fun _ _ _ => False) := ⟨fun _ _ _ _ _ _ h => h.elim⟩
theorem pe_no {X : Cx} {e : Expr} : PE X e (fun _ _ _ => False) := ⟨fun _ _ _ _ _ _ h => h.elim⟩
end EX2
namespace K50
open PySem PySem.Spec PyProof.Rows L2 EX2 TX
structure Tx where
  name : Str
  above : Str
  marks : List Str
  fields : List (Str × Str)
  meths : List Mt
structure TxP (T : Tx) : Prop where
  n : T.name ∈ cnS
  a : T.above ∈ nmS
  m : T.marks ∈ mkU
  f : FldP T.fields
  ms : MtsP T.meths
def cfields (n a mk fl me : V) : List (Str × V) := [("own_name", n), ("own_above", a), ("own_marks", mk), ("own_fields", fl), ("own_methods", me)]
def TxAt (CT CM : Addr) (H : Hp) (v : V) (T : Tx) : Prop := ∃ (x dx : Addr) (mk fl : V) (me : Addr) (xs : List V), v = .ref x ∧ H x = some (.ins CT dx (cfields (.str T.name) (.str T.above) mk fl (.ref me))) ∧ Dq H mk (.tuple (T.marks.map .str)) ∧ Dq H fl (.tuple (T.fields.map fldD)) ∧
  H me = some (.tup xs) ∧ All2 (MtAt CM H) xs T.meths
theorem TxAt.ext {CT CM : Addr} {H H' : Hp} {v : V} {T : Tx} (h : TxAt CT CM H v T) (e : Evl.Ex H H') : TxAt CT CM H' v T := by
  obtain ⟨x, dx, mk, fl, me, xs, h1, h2, h3, h4, h5, h6⟩ := h
  exact ⟨x, dx, mk, fl, me, xs, h1, e _ _ h2, h3.ext e, h4.ext e, e _ _ h5, h6.imp fun _ _ q => q.ext e⟩
/-- the class: what the head says -/
structure CtF (K : PySem.W.Frag) (mg : Str → Option Value) : Prop where
  hm : mg "ClassText" = some (.ref (He.ga K "ClassText"))
  mkr : Mk K (He.ga K "ClassText") (He.ma K (He.ga K "ClassText") "__init__")
  cl : Cls K (He.ga K "ClassText")
  n1 : NoAttr K (He.ga K "ClassText") "own_name"
  n2 : NoAttr K (He.ga K "ClassText") "own_above"
  n3 : NoAttr K (He.ga K "ClassText") "own_marks"
  n4 : NoAttr K (He.ga K "ClassText") "own_fields"
  n5 : NoAttr K (He.ga K "ClassText") "own_methods"
  pm : Meth K (He.ga K "ClassText") "parts" (He.ma K (He.ga K "ClassText") "parts")
  em : Meth K (He.ga K "ClassText") "__eq__" (He.ma K (He.ga K "ClassText") "__eq__")
  ne : PySem.W.findIn K (.ref (He.ga K "ClassText")) "__ne__" = some (some (.builtin "object.__ne__"))
  parts : ∃ fd, FunD K "parts" "ClassText.parts" (defArgs (inClass (top 33) 9)) (defBody (inClass (top 33) 9)) (defScope (inClass (top 33) 9)) [] [] (He.ma K (He.ga K "ClassText") "parts") fd
  eq : ∃ fd, FunD K "__eq__" "ClassText.__eq__" (defArgs (inClass (top 33) 10)) (defBody (inClass (top 33) 10)) (defScope (inClass (top 33) 10)) [] [] (He.ma K (He.ga K "ClassText") "__eq__") fd
  init : ∃ fd, FunD K "__init__" "ClassText.__init__" (defArgs (inClass (top 33) 0)) (defBody (inClass (top 33) 0)) (defScope (inClass (top 33) 0)) [] [("above", .str "top"), ("marks", .ref (kdAt "marks" K)), ("fields", .ref (kdAt "fields" K)), ("methods", .ref (kdAt "methods" K))] (He.ma K (He.ga K "ClassText") "__init__") fd
  e1 : SqT K (fun _ => none) (kdAt "marks" K) []
  e2 : SqT K (fun _ => none) (kdAt "fields" K) []
  e3 : SqT K (fun _ => none) (kdAt "methods" K) []
def spInitT (CT CM : Addr) : Sp := fun vs H Q _ => ∃ (a dx : Addr) (mk fl : V) (me : Addr) (dm df : PyData) (xs : List V) (T : Tx), vs = [.ref a, .str T.name, .str T.above, mk, fl, .ref me] ∧ H a = some (.ins CT dx []) ∧
  Dq H mk dm ∧ itemsOf dm = T.marks.map .str ∧ seqD 8 dm = true ∧ Dq H fl df ∧ itemsOf df = T.fields.map fldD ∧ seqD 8 df = true ∧ (H me = some (.lst xs) ∨ H me = some (.tup xs)) ∧ All2 (MtAt CM H) xs T.meths ∧ TxP T ∧
  ∀ H' : Hp, (∀ b o, b ≠ a → H b = some o → H' b = some o) → TxAt CT CM H' (.ref a) T → Q .non H'
section
variable {P : Program} {w : World} {K : PySem.W.Frag} {mg : Str → Option Value} {base : Heap} {f : Addr} {fd : FuncData}
theorem fr_ex {C dx a : Addr} {fs : List (Str × V)} {H H' : Hp} (ha : H a = some (.ins C dx fs)) (k : ∀ b o, b ≠ a → H b = some o → H' b = some o) : Evl.Ex (rm a H) H' := fun b o e => by
  have nb := rm_ne_of e
  rw [rm_ne nb] at e
  exact k b o nb e
theorem MtAt.fr {CM C dx a : Addr} {H H' : Hp} {v : V} {m : Mt} (h : MtAt CM H v m) (ha : H a = some (.ins C dx [])) (k : ∀ b o, b ≠ a → H b = some o → H' b = some o) : MtAt CM H' v m := by
  obtain ⟨x, dx', p, c, h1, h2, h3, h4⟩ := h
  exact ⟨x, dx', p, c, h1, k _ _ (ne_of h2 ha (fun z => nomatch z)) h2, Dq.fr ha k h3, Dq.fr ha k h4⟩
abbrev sClassText___init__ : Stmt := inClass (top 33) 0
abbrev nClassText___init__ : List Str := ["self", "name", "above", "marks", "fields", "methods"]
theorem scClassText___init__ : FnScope nClassText___init__ ["self", "name", "above", "marks", "fields", "methods"] (defScope sClassText___init__) := ⟨rfl, rfl, rfl, by decide +kernel, rfl, by decide +kernel, by decide +kernel⟩
theorem okClassText___init__ (F : FunD K "__init__" "ClassText.__init__" (defArgs sClassText___init__) (defBody sClassText___init__) (defScope sClassText___init__) [] [("above", .str "top"), ("marks", .ref (kdAt "marks" K)), ("fields", .ref (kdAt "fields" K)), ("methods", .ref (kdAt "methods" K))] f fd) (D : CD w K mg) (M : MethF K mg) (IF : InsF K (He.ga K "Method")) (gN : GetM P w K mg base "Method" "name" "own_name") (C : CtF K mg) : FnOk P w K mg base CX0 6 f fd ["self", "name", "above", "marks", "fields", "methods"] (spInitT (He.ga K "ClassText") (He.ga K "Method")) := by
  have T := D.t
  obtain ⟨fis_class_name, fdis_class_name, gis_class_name, Fis_class_name⟩ := D.is_class_name
  have Gis_class_name := okis_class_name (P := P) (base := base) Fis_class_name D
  have bis_class_name : Binds K fdis_class_name ["value"] [] := Fis_class_name.bindsN fun _ _ _ _ _ _ us hl => match us, hl with | [_], _ => rfl
  obtain ⟨fis_name, fdis_name, gis_name, Fis_name⟩ := D.is_name
  have Gis_name := okis_name (P := P) (base := base) Fis_name D
  have bis_name : Binds K fdis_name ["value"] [] := Fis_name.bindsN fun _ _ _ _ _ _ us hl => match us, hl with | [_], _ => rfl
  obtain ⟨fare_marks, fdare_marks, gare_marks, Fare_marks⟩ := D.are_marks
  have Gare_marks := okare_marks (P := P) (base := base) Fare_marks D
  have bare_marks : Binds K fdare_marks ["value"] [] := Fare_marks.bindsN fun _ _ _ _ _ _ us hl => match us, hl with | [_], _ => rfl
  obtain ⟨fare_fields, fdare_fields, gare_fields, Fare_fields⟩ := D.are_fields
  have Gare_fields := okare_fields (P := P) (base := base) Fare_fields D
  have bare_fields : Binds K fdare_fields ["value"] [] := Fare_fields.bindsN fun _ _ _ _ _ _ us hl => match us, hl with | [_], _ => rfl
  obtain ⟨fare_methods, fdare_methods, gare_methods, Fare_methods⟩ := D.are_methods
  have Gare_methods := okare_methods (P := P) (base := base) Fare_methods D
  have bare_methods : Binds K fdare_methods ["value"] [] := Fare_methods.bindsN fun _ _ _ _ _ _ us hl => match us, hl with | [_], _ => rfl
  refine F.ok scClassText___init__ (fun vs H Q E h => ?_) (fun cdv A outer s H vs Q E hr h => ?_)
  · obtain ⟨a, dx, mk, fl, me, dm, df, xs, T', rfl, _⟩ := h
    rfl
  · obtain ⟨a, dx, mk, fl, me, dm, df, xs, TT, rfl, ha, hmk, im, km, hfl, jf, kf, hme, hms, hT, hQ⟩ := h
    refine ⟨_, PSs.nox (pss_cons (ps_if (pt_not (pt_val (pe_call Gis_class_name (hr.mono (by decide)) rfl gis_class_name Fis_class_name.kp bis_class_name .nil pass0 (pa_cons (pv 1) pa_nil))))
        pss_no
        pss_nil)
      (pss_cons (ps_if (pt_not (pt_val (pe_call Gis_name (hr.mono (by decide)) rfl gis_name Fis_name.kp bis_name .nil pass0 (pa_cons (pv 2) pa_nil))))
        pss_no
        pss_nil)
      (pss_cons (ps_if (pt_not (pt_val (pe_call Gare_marks (hr.mono (by decide)) rfl gare_marks Fare_marks.kp bare_marks .nil pass0 (pa_cons (pv 3) pa_nil))))
        pss_no
        pss_nil)
      (pss_cons (ps_if (pt_not (pt_val (pe_call Gare_fields (hr.mono (by decide)) rfl gare_fields Fare_fields.kp bare_fields .nil pass0 (pa_cons (pv 4) pa_nil))))
        pss_no
        pss_nil)
      (pss_cons (ps_if (pt_not (pt_val (pe_call (Gare_methods M IF gN) (hr.mono (by decide)) rfl gare_methods Fare_methods.kp bare_methods .nil pass0 (pa_cons (pv 5) pa_nil))))
        pss_no
        pss_nil)
      (pss_cons (ps_asg (pe_tup (pa_cons (pv 1) (pa_cons (pv 2) (pa_cons (pe_callTy call_tupD rfl T.tup boot_tuple (pa_cons (pv 3) pa_nil)) pa_nil)))) (pg_tup rfl (pgs_cons (pg_fld (pv 0)) (pgs_cons (pg_fld (pv 0)) (pgs_cons (pg_fld (pv 0)) pgs_nil)))) (hw := no_swap3 rfl))
      (pss_one (ps_asg (pe_tup (pa_cons (pe_callTy call_tupD rfl T.tup boot_tuple (pa_cons (pv 4) pa_nil)) (pa_cons (pe_callTy call_tuple_of rfl T.tup boot_tuple (pa_cons (pv 5) pa_nil)) pa_nil))) (pg_tup rfl (pgs_cons (pg_fld (pv 0)) (pgs_cons (pg_fld (pv 0)) pgs_nil))) (hw := no_swap rfl))))))))), ?_⟩
    refine ⟨_, rfl, TT.name, rfl, hT.n, fun H1 e1 => ⟨_, rfl, iteF ?_⟩⟩
    refine ⟨_, rfl, _, _, rfl, .str TT.above, okz (nmS_ok _ hT.a).2, fun H2 e2 => ⟨_, rfl, ?_⟩⟩
    refine ifF (by rw [show nameD (.str TT.above) = true from (nmS_ok _ hT.a).1]; rfl) ?_
    have e12 := e1.trans e2
    refine ⟨_, rfl, mk, dm, TT.marks, rfl, hmk.ext e12, im, hT.m, km, fun H3 e3 => ⟨_, rfl, iteF ?_⟩⟩
    have e13 := e12.trans e3
    refine ⟨_, rfl, fl, df, TT.fields, rfl, hfl.ext e13, jf, hT.f, kf, fun H4 e4 => ⟨_, rfl, iteF ?_⟩⟩
    have e14 := e13.trans e4
    refine ⟨_, rfl, me, xs, TT.meths, rfl, (by rw [ex_or e14 hme]; exact hme), hms.imp (fun _ _ q => q.ext e14), hT.ms, fun H5 e5 => ⟨_, rfl, iteF ?_⟩⟩
    have e15 := e14.trans e5
    refine ⟨_, rfl, _, rfl, _, rfl, _, dm, _, rfl, hmk.ext e15, km, fun H6 mk' e6 hmk6 => ⟨le_line (by simp), fun t1 ht1 => ?_⟩⟩
    have e7 := Evl.Ex.new (o := .tup [.str TT.name, .str TT.above, mk']) ht1
    have e07 := (e15.trans e6).trans e7
    have ha7 := e07 _ _ ha
    have hmk7 := hmk6.ext e7
    have hme7 : (upd H6 t1 (.tup [.str TT.name, .str TT.above, mk'])) me = some (.lst xs) ∨ (upd H6 t1 (.tup [.str TT.name, .str TT.above, mk'])) me = some (.tup xs) := by rw [ex_or e07 hme]; exact hme
    refine ⟨t1, _, rfl, SqT.of upd_same, rfl, _, _, rfl, ?_⟩
    generalize upd H6 t1 (.tup [.str TT.name, .str TT.above, mk']) = H7 at e07 ha7 hmk7 hme7
    clear e7 ht1 hmk6 e6 e15 e14 e13 e12
    refine ⟨_, rfl, a, _, dx, [], rfl, ha7, C.cl, C.n1, by decide, _, _, rfl, ?_⟩
    refine ⟨_, rfl, a, _, dx, [("own_name", .str TT.name)], rfl, upd_same, C.cl, C.n2, by simp, _, _, rfl, ?_⟩
    refine ⟨_, rfl, a, _, dx, [("own_name", .str TT.name), ("own_above", .str TT.above)], rfl, upd_same, C.cl, C.n3, by simp, rfl, ?_⟩
    have k9 : ∀ b o, b ≠ a → H7 b = some o → (upd (upd (upd H7 a (.ins (He.ga K "ClassText") dx (putF "own_name" (.str TT.name) []))) a (.ins (He.ga K "ClassText") dx (putF "own_above" (.str TT.above) [("own_name", .str TT.name)]))) a (.ins (He.ga K "ClassText") dx (putF "own_marks" mk' [("own_name", .str TT.name), ("own_above", .str TT.above)]))) b = some o := fun b o hb e => by
      rw [upd_ne hb, upd_ne hb, upd_ne hb]; exact e
    have ha9 := upd_same (H := upd (upd H7 a (.ins (He.ga K "ClassText") dx (putF "own_name" (.str TT.name) []))) a (.ins (He.ga K "ClassText") dx (putF "own_above" (.str TT.above) [("own_name", .str TT.name)]))) (a := a) (o := .ins (He.ga K "ClassText") dx (putF "own_marks" mk' [("own_name", .str TT.name), ("own_above", .str TT.above)]))
    generalize (upd (upd (upd H7 a (.ins (He.ga K "ClassText") dx (putF "own_name" (.str TT.name) []))) a (.ins (He.ga K "ClassText") dx (putF "own_above" (.str TT.above) [("own_name", .str TT.name)]))) a (.ins (He.ga K "ClassText") dx (putF "own_marks" mk' [("own_name", .str TT.name), ("own_above", .str TT.above)]))) = H9 at k9 ha9
    have hmk9 : Dq H9 mk' (.tuple (TT.marks.map .str)) := by rw [← im]; exact Dq.fr ha7 k9 hmk7
    have hfl9 : Dq H9 fl df := Dq.fr ha7 k9 (hfl.ext e07)
    have nme : me ≠ a := fun e => by rw [e, ha] at hme; rcases hme with q | q <;> cases q
    have hme9 : H9 me = some (.lst xs) ∨ H9 me = some (.tup xs) := hme7.imp (k9 _ _ nme) (k9 _ _ nme)
    refine ⟨_, rfl, _, df, _, rfl, hfl9, kf, fun H10 fl' e10 hfl10 => ?_⟩
    rw [jf] at hfl10
    have hme10 := hme9.imp (e10 _ _) (e10 _ _)
    rcases hme10 with h10 | h10
    case' inl =>
      refine ⟨_, rfl, me, xs, rfl, .inl ⟨SqL.of h10, fun l hl => ?_⟩⟩
      have e11 := Evl.Ex.new (o := .tup xs) hl
      have hm11 := upd_same (H := H10) (a := l) (o := .tup xs)
    case' inr =>
      refine ⟨_, rfl, me, xs, rfl, .inr ⟨SqT.of h10, ?_⟩⟩
      have e11 := Evl.Ex.refl H10
      have hm11 := h10
    all_goals
      refine ⟨le_line (by simp), fun t2 ht2 => ?_⟩
      have e12 : ∀ o, Evl.Ex _ (upd _ t2 o) := fun o => Evl.Ex.new ht2
      refine ⟨t2, _, rfl, SqT.of upd_same, rfl, _, _, rfl, ?_⟩
      refine ⟨_, rfl, a, _, dx, [("own_name", .str TT.name), ("own_above", .str TT.above), ("own_marks", mk')], rfl, e12 _ _ _ (e11 _ _ (e10 _ _ ha9)), C.cl, C.n4, by simp, _, _, rfl, ?_⟩
      refine ⟨_, rfl, a, _, dx, [("own_name", .str TT.name), ("own_above", .str TT.above), ("own_marks", mk'), ("own_fields", fl')], rfl, upd_same, C.cl, C.n5, by simp, rfl, ?_⟩
      have nm := ne_of hm11 (e11 _ _ (e10 _ _ ha9)) (fun z => nomatch z)
      refine hQ _ (fun b o hb e => (upd_ne hb).trans ((upd_ne hb).trans (e12 _ _ _ (e11 _ _ (e10 _ _ (k9 b o hb (e07 _ _ e))))))) ⟨a, dx, mk', fl', _, xs, rfl, upd_same, ?_, ?_, ?_, ?_⟩
      · exact Dq.fr ha9 (fun b o hb e => (upd_ne hb).trans ((upd_ne hb).trans (e12 _ _ _ (e11 _ _ (e10 _ _ e))))) hmk9
      · exact Dq.fr (e10 _ _ ha9) (fun b o hb e => (upd_ne hb).trans ((upd_ne hb).trans (e12 _ _ _ (e11 _ _ e)))) hfl10
      · exact (upd_ne nm).trans ((upd_ne nm).trans (e12 _ _ _ hm11))
      · exact hms.imp fun _ _ q => q.fr ha (fun b o hb e => (upd_ne hb).trans ((upd_ne hb).trans (e12 _ _ _ (e11 _ _ (e10 _ _ (k9 b o hb (e07 _ _ e)))))))
abbrev sClassText_parts : Stmt := inClass (top 33) 9
abbrev nClassText_parts : List Str := ["self"]
theorem scClassText_parts : FnScope nClassText_parts ["self"] (defScope sClassText_parts) := ⟨rfl, rfl, rfl, by decide +kernel, rfl, by decide +kernel, by decide +kernel⟩
theorem okClassText_parts (F : FunD K "parts" "ClassText.parts" (defArgs sClassText_parts) (defBody sClassText_parts) (defScope sClassText_parts) [] [] f fd) (D : CD w K mg) (C : CtF K mg) : FnOk P w K mg base CX0 1 f fd ["self"] (fun vs H Q _ => ∃ (x dx : Addr) (n a mk fl me : V), vs = [.ref x] ∧ H x = some (.ins (He.ga K "ClassText") dx (cfields n a mk fl me)) ∧ ∀ L, H L = none → Q (.ref L) (upd H L (.lst [n, a, mk, fl, me]))) := by
  have T := D.t
  refine F.ok scClassText_parts (fun vs H Q E h => ?_) (fun cdv A outer s H vs Q E hr h => ?_)
  · obtain ⟨x, dx, n, a, mk, fl, me, rfl, _⟩ := h
    rfl
  · obtain ⟨x, dx, n, a, mk, fl, me, rfl, ha, hQ⟩ := h
    refine ⟨_, PSs.nox (pss_one (ps_ret (pe_lst (pa_cons (pe_fld (pv 0) rfl) (pa_cons (pe_fld (pv 0) rfl) (pa_cons (pe_fld (pv 0) rfl) (pa_cons (pe_fld (pv 0) rfl) (pa_cons (pe_fld (pv 0) rfl) pa_nil)))))))), ?_⟩
    exact ⟨_, rfl, x, _, dx, _, _, rfl, ha, C.cl, C.n1, rfl, _, rfl, x, _, dx, _, _, rfl, ha, C.cl, C.n2, rfl, _, rfl, x, _, dx, _, _, rfl, ha, C.cl, C.n3, rfl, _, rfl, x, _, dx, _, _, rfl, ha, C.cl, C.n4, rfl, _, rfl, x, _, dx, _, _, rfl, ha, C.cl, C.n5, rfl, le_line (by simp), fun t ht => hQ t ht⟩
end
end K50

set_option Elab.async false
set_option linter.all false
set_option maxRecDepth 100000
set_option maxHeartbeats 0
/-! == of methods and of class texts -/
namespace EX2
open PySem PySem.Spec PyProof.Rows L2
theorem depthAll_le {k : Nat} : ∀ {ds : List PyData}, (∀ d ∈ ds, d.depth ≤ k) → PyData.depthAll ds ≤ k
  | [], _ => Nat.zero_le _
  | d :: ds, h => by
    rw [PyData.depthAll]
    exact Nat.max_le.mpr ⟨h d List.mem_cons_self, depthAll_le fun e he => h e (List.mem_cons_of_mem _ he)⟩
end EX2
namespace K50
open PySem PySem.Spec PyProof.Rows L2 EX2
mutual
theorem lay_of : ∀ d : PyData, okD d = true → noL d = true → d.canLay0 = true
  | .none, _, _ => rfl
  | .bool _, _, _ => rfl
  | .int _, _, _ => rfl
  | .str z, h, _ => by
    simp only [okD, Bool.and_eq_true] at h
    exact h.2
  | .tuple xs, h, n => layAll_of xs h n
  | .list _, _, n => by cases n
  | .dict _, _, n => by cases n
theorem layAll_of : ∀ ds : List PyData, okAll ds = true → noLs ds = true → PyData.canLayAll0 ds = true
  | [], _, _ => rfl
  | d :: ds, h, n => by
    simp only [okAll, noLs, Bool.and_eq_true] at h n
    rw [PyData.canLayAll0, lay_of d h.1 n.1, layAll_of ds h.2 n.2]
    rfl
end
theorem it_depth {n c : Nat} {d : PyData} (h : It n c d) : d.depth ≤ 1 := by
  cases h with
  | y zs l h =>
    have : PyData.depthAll (zs.map .str) ≤ 0 := depthAll_le fun d hd => by obtain ⟨z, _, rfl⟩ := List.mem_map.mp hd; exact Nat.le_refl _
    simp [PyData.depth]; omega
  | x is l h =>
    have : PyData.depthAll (is.map iD) ≤ 0 := depthAll_le fun d hd => by obtain ⟨z, _, rfl⟩ := List.mem_map.mp hd; exact Nat.le_refl _
    simp [PyData.depth]; omega
  | _ => simp [PyData.depth, iD]
theorem inD_depth {n : Nat} {d : PyData} (h : InD n d) : d.depth ≤ 2 := by
  obtain ⟨z, fm, ds, rfl, q⟩ := h
  have : PyData.depthAll (.str z :: ds) ≤ 1 := depthAll_le fun d hd => by
    rcases List.mem_cons.mp hd with rfl | hd
    · simp [PyData.depth]
    · obtain ⟨c, h⟩ := q.its.all d hd
      exact it_depth h
  rw [PyData.depth]
  omega
theorem inD_ok {n : Nat} {d : PyData} (h : InD n d) : okD d = true ∧ noL d = true := by
  obtain ⟨z, fm, ds, rfl, q⟩ := h
  exact q.ok
def mtD (m : Mt) : PyData := .tuple [.str m.name, .tuple (m.params.map .str), .str m.result, .int m.size, .tuple m.code]
theorem MtP.okc {m : Mt} (h : MtP m) : okAll m.code = true ∧ noLs m.code = true := ⟨okAll_of fun d hd => (inD_ok (h.cd.ci d hd)).1, noLs_of fun d hd => (inD_ok (h.cd.ci d hd)).2⟩
theorem strs_ok {zs : List Str} (h : ∀ z ∈ zs, z ∈ kS) : okAll (zs.map .str) = true ∧ noLs (zs.map .str) = true :=
  ⟨okAll_of fun d hd => by obtain ⟨z, hz, rfl⟩ := List.mem_map.mp hd; exact okz (kS_ok z (h z hz)).2, noLs_of fun d hd => by obtain ⟨z, hz, rfl⟩ := List.mem_map.mp hd; rfl⟩
theorem mtD_shaped {m : Mt} (h : MtP m) (hn : m.name ∈ fS) : SeqAt.shaped (mtD m) = true := by
  have n1 := (fS_ok _ hn).2.2
  have r1 := (kS_ok _ h.kr).2.2
  have h1 : PyData.depthAll (m.params.map .str) ≤ 0 := depthAll_le fun d hd => by obtain ⟨z, _, rfl⟩ := List.mem_map.mp hd; exact Nat.le_refl _
  have h2 : PyData.depthAll m.code ≤ 2 := depthAll_le fun d hd => inD_depth (h.cd.ci d hd)
  unfold SeqAt.shaped
  rw [Bool.and_eq_true]
  refine ⟨?_, decide_eq_true ?_⟩
  · simp only [mtD, PyData.canLayAll0, PyData.canLay0, n1, r1, layAll_of _ (strs_ok h.kp).1 (strs_ok h.kp).2, layAll_of _ h.okc.1 h.okc.2]
    rfl
  · have : (mtD m).depth ≤ 5 := by
      simp [mtD, PyData.depth, PyData.depthAll]
      omega
    exact Nat.le_trans this (by decide)
theorem MtAt.meth {CM : Addr} {H : Hp} {v : V} {m : Mt} (h : MtAt CM H v m) : MethD CM H v (mtD m) := by
  obtain ⟨x, dx, p, c, h1, h2, h3, h4⟩ := h
  exact ⟨x, dx, _, _, _, _, _, _, h1, h2, .cons (.str _) (.cons h3 (.cons (.str _) (.cons (.int _) (.cons h4 .nil)))), rfl⟩
def RM (CM : Addr) : Addr → Addr → Hp → Prop := fun a b H => ∃ d, MethD CM H (.ref a) d ∧ MethD CM H (.ref b) d ∧ SeqAt.shaped d = true
theorem RM.mon {CM : Addr} : ∀ a b H H', Ext H H' → RM CM a b H → RM CM a b H' := fun a b H H' e ⟨d, h1, h2, h3⟩ => ⟨d, h1.ext e, h2.ext e, h3⟩
def RT (CT CM : Addr) : Addr → Addr → Hp → Prop := fun a b H => ∃ T, TxAt CT CM H (.ref a) T ∧ TxAt CT CM H (.ref b) T ∧ TxP T
theorem spEq_M {CM : Addr} : ∀ vs H Q E, spEq (RM CM) vs H Q E → spEqM CM vs H Q E := by
  rintro vs H Q E ⟨a, b, rfl, ⟨d, h1, h2, h3⟩, hQ⟩
  refine ⟨.ref a, .ref b, d, rfl, h1, h3, .inl ⟨d, h2, h3, fun H' e => ?_⟩⟩
  rw [SeqAt.eqv_refl d (SeqAt.canLay_of_shaped h3)]
  exact hQ H' e
/-- what two class texts are made of -/
abbrev DM (CM : Addr) : Eqv := DIns CM (RM CM)
abbrev DA (K : PySem.W.Frag) (CM : Addr) : Eqv := fun x y H => DFlat x y H ∨ (DTup K DFlat x y H ∨ (DTup K (DTup K DFlat) x y H ∨ DTup K (DM CM) x y H))
section
variable {P : Program} {w : World} {K : PySem.W.Frag} {mg : Str → Option Value} {base : Heap} {f : Addr} {fd : FuncData}
theorem prs_strs {H : Hp} : ∀ zs : List Str, Prs DFlat (zs.map V.str) (zs.map V.str) H
  | [] => .nil
  | z :: zs => .cons ⟨rfl, rfl, by simp [eqV]⟩ (prs_strs zs)
theorem dtup_strs {H : Hp} {x y : V} {zs : List Str} (h : Dq H x (.tuple (zs.map .str))) (g : Dq H y (.tuple (zs.map .str))) : DTup K DFlat x y H := by
  obtain ⟨a, xs, rfl, ha, hall⟩ := h.tupI
  obtain ⟨b, ys, rfl, hb, hall'⟩ := g.tupI
  have e1 := dq_strs hall
  have e2 := dq_strs hall'
  subst e1 e2
  exact ⟨a, b, _, _, rfl, rfl, SqT.of ha, SqT.of hb, prs_strs zs⟩
theorem prs_of {D : Eqv} {H : Hp} {α : Type} {xs ys : List V} {l : List α} (hx : xs.length = l.length) (hy : ys.length = l.length) (h : ∀ (i : Nat) x y q, xs[i]? = some x → ys[i]? = some y → l[i]? = some q → D x y H) : Prs D xs ys H :=
  ⟨by omega, fun i x y e1 e2 => by
    have hi : i < l.length := by have := (List.getElem?_eq_some_iff.mp e1).1; omega
    exact h i x y _ e1 e2 (List.getElem?_eq_getElem hi)⟩
theorem dtup_flds {H : Hp} {x y : V} {fs : List (Str × Str)} (h : Dq H x (.tuple (fs.map fldD))) (g : Dq H y (.tuple (fs.map fldD))) : DTup K (DTup K DFlat) x y H := by
  obtain ⟨a, xs, rfl, ha, hall⟩ := h.tupI
  obtain ⟨b, ys, rfl, hb, hall'⟩ := g.tupI
  refine ⟨a, b, xs, ys, rfl, rfl, SqT.of ha, SqT.of hb, prs_of (l := fs) (by rw [hall.length, List.length_map]) (by rw [hall'.length, List.length_map]) fun i x y q e1 e2 e3 => ?_⟩
  obtain ⟨q1, h1, d1⟩ := hall.mapGet e1
  obtain ⟨q2, h2, d2⟩ := hall'.mapGet e2
  rw [e3] at h1 h2
  cases h1
  cases h2
  exact dtup_strs (zs := [q.1, q.2]) d1 d2
theorem mon_DM {CM : Addr} : Mon (DM CM) := mon_ins RM.mon
theorem mon_DA {CM : Addr} : Mon (DA K CM) := mon_flat.or ((mon_tup mon_flat).or ((mon_tup (mon_tup mon_flat)).or (mon_tup mon_DM)))
abbrev sClassText___eq__ : Stmt := inClass (top 33) 10
abbrev nClassText___eq__ : List Str := ["self", "other"]
theorem scClassText___eq__ : FnScope nClassText___eq__ ["self", "other"] (defScope sClassText___eq__) := ⟨rfl, rfl, rfl, by decide +kernel, rfl, by decide +kernel, by decide +kernel⟩
theorem okClassText___eq__ (F : FunD K "__eq__" "ClassText.__eq__" (defArgs sClassText___eq__) (defBody sClassText___eq__) (defScope sClassText___eq__) [] [] f fd) (D : CD w K mg) (M : MethF K mg) (IF : InsF K (He.ga K "Method")) (C : CtF K mg) (IC : InsF K (He.ga K "ClassText")) : FnOk P w K mg base CX0 5 f fd ["self", "other"] (spEq (RT (He.ga K "ClassText") (He.ga K "Method"))) := by
  have T := D.t
  obtain ⟨fdP, FP⟩ := C.parts
  have GP := okClassText_parts (P := P) (w := w) (base := base) FP D C
  have bP : Binds K fdP ["self"] [] := FunD.bindsN FP fun _ _ _ _ _ _ us hl => match us, hl with | [_], _ => rfl
  obtain ⟨fdQ, FQ⟩ := M.eq
  have GQ : FnOk P w K mg base CX0 2 _ fdQ ["self", "other"] (spEq (RM (He.ga K "Method"))) := (ok_eqM (P := P) (w := w) (base := base) FQ D.dd.d M IF).imp spEq_M
  have bQ : Binds K fdQ ["self", "other"] [] := FunD.bindsN FQ fun _ _ _ _ _ _ us hl => match us, hl with | [_, _], _ => rfl
  refine F.ok scClassText___eq__ (fun vs H Q E h => ?_) (fun cdv A outer s H vs Q E hr h => ?_)
  · obtain ⟨a, b, rfl, _⟩ := h
    rfl
  · obtain ⟨a, b, rfl, ⟨TT, h1, h2, hT⟩, hQ⟩ := h
    refine ⟨_, PSs.nox (pss_one (ps_ret (pe_and (pe_callB call_isi rfl T.isi boot_isi (pa_cons (pv 1) (pa_cons (pe_glob rfl C.hm (v := .ref (He.ga K "ClassText")) rfl) pa_nil))) (pe_one (pe_cmpR (op_eqG (n := 4) (D := DList (DA K (He.ga K "Method"))) (rcG_list mon_DA (EqG.or (eqG_flat.mono (by decide)) (EqG.or ((eqG_tup mon_flat eqG_flat).mono (by decide)) (EqG.or ((eqG_tup (mon_tup mon_flat) (eqG_tup mon_flat eqG_flat)).mono (by decide)) (eqG_tup mon_DM (eqG_ins GQ M.em.at_ M.em.fn bQ pass0)))))) (hr.mono (by decide))) (pe_meth0 (pv 0) C.cl C.pm GP (hr.mono (by decide)) bP .nil pass0) (pe_meth0 (pv 1) C.cl C.pm GP (hr.mono (by decide)) bP .nil pass0) (nomark _)))))), ?_⟩
    obtain ⟨x, dx, mk, fl, me, xs, e, hx, hmk, hfl, hme, hms⟩ := h1
    cases e
    obtain ⟨y, dy, mk', fl', me', xs', e, hy, hmk', hfl', hme', hms'⟩ := h2
    cases e
    refine ⟨_, rfl, _, _, _, _, _, rfl, .own _, .base (.ins hy C.cl IC.ha IC.hn IC.ht IC.hm), IC.kc, _, rfl, iteT ?_⟩
    refine ⟨_, rfl, a, dx, _, rfl, hx, rfl, a, dx, _, _, _, _, _, rfl, hx, fun t ht => ?_⟩
    have e1 := Evl.Ex.new (o := .lst [.str TT.name, .str TT.above, mk, fl, .ref me]) ht
    refine ⟨_, rfl, b, dy, _, rfl, e1 _ _ hy, rfl, b, dy, _, _, _, _, _, rfl, e1 _ _ hy, fun t' ht' => ?_⟩
    have e2 := Evl.Ex.new (o := .lst [.str TT.name, .str TT.above, mk', fl', .ref me']) ht'
    have e := e1.trans e2
    refine ⟨⟨t, t', _, _, rfl, rfl, e2 _ _ upd_same, upd_same, ?_⟩, fun H' eH => hQ H' (e.trans eH)⟩
    refine .cons (.inl ⟨rfl, rfl, by simp [eqV]⟩) (.cons (.inl ⟨rfl, rfl, by simp [eqV]⟩) (.cons (.inr (.inl (dtup_strs (hmk.ext e) (hmk'.ext e)))) (.cons (.inr (.inr (.inl (dtup_flds (hfl.ext e) (hfl'.ext e))))) (.cons (.inr (.inr (.inr ?_))) .nil))))
    refine ⟨me, me', xs, xs', rfl, rfl, SqT.of (e _ _ hme), SqT.of (e _ _ hme'), prs_of (l := TT.meths) hms.length hms'.length fun i u v m e1 e2 e3 => ?_⟩
    obtain ⟨m1, q1, r1⟩ := hms.get e1
    obtain ⟨m2, q2, r2⟩ := hms'.get e2
    rw [e3] at q1 q2
    cases q1
    cases q2
    have hm := List.mem_of_getElem? e3
    have hnm := (mnU_ok _ hT.ms.1).2.2 m.name (List.mem_map.mpr ⟨m, hm, rfl⟩)
    have s := mtD_shaped (hT.ms.2 m hm) hnm
    have r1' := r1.ext e
    have r2' := r2.ext e
    have k1 := r1'.meth
    have k2 := r2'.meth
    obtain ⟨x1, dx1, p1, c1, rfl, i1, _, _⟩ := r1'
    obtain ⟨x2, dx2, p2, c2, rfl, i2, _, _⟩ := r2'
    exact ⟨x1, x2, _, _, _, _, rfl, rfl, i1, i2, _, k1, k2, s⟩
end
end K50

set_option Elab.async false
set_option linter.all false
set_option maxRecDepth 100000
set_option maxHeartbeats 0
/-! items and their words -/
namespace K50
open PySem PySem.Spec PyProof.Rows L2 EX2 TX
def nS (i : Nat) : Str := Str.ofString (toString (i : Int))
def digS : Str := "0123456789"
def commaS : Str := ","
def dashS : Str := "-"
theorem num_ok : ∀ i ∈ List.range 41, ((1 ≤ (nS i).length ∧ (nS i).length ≤ 30) ∧ ∀ c ∈ (nS i).cps.toList, c ∈ digS.cps.toList) ∧ ((nS i = "0" ∨ (nS i).cps.toList.headD 0 ≠ 48) ∧ PySem.intText? (nS i) = some (i : Int) ∧ PyData.strOk (nS i) = true) := by decide +kernel
/-- the word of a part, of an item -/
def wPart : PyData → Str
  | .str z => z
  | .int i => Str.ofString (toString i)
  | _ => Str.empty
def wordOf : PyData → Str
  | .tuple [] => dashS
  | .tuple ds => Txt.join commaS (ds.map wPart)
  | d => wPart d
def PartP (d : PyData) : Prop := (∃ z ∈ kS, d = .str z) ∨ ∃ i : Nat, i < 41 ∧ d = iD i
theorem it_parts {n c : Nat} {d : PyData} (hn : n ≤ 40) (h : It n c d) : (∃ z, d = .str z ∧ z.length ≤ 8) ∨ (∃ i : Nat, i < 41 ∧ d = iD i) ∨ (∃ ds, d = .tuple ds ∧ ds.length ≤ 2 ∧ ∀ e ∈ ds, PartP e) := by
  cases h with
  | r i h => exact .inr (.inl ⟨i, by omega, rfl⟩)
  | n i h => exact .inr (.inl ⟨i, by omega, rfl⟩)
  | j i h => exact .inr (.inl ⟨i, by omega, rfl⟩)
  | c z h => exact .inl ⟨z, rfl, (nmS_ok z h).2.1⟩
  | f z h => exact .inl ⟨z, rfl, (fS_ok z h).2.1⟩
  | t z h => exact .inl ⟨z, rfl, (kS_ok z h).2.1⟩
  | y zs l h => exact .inr (.inr ⟨_, rfl, by rw [List.length_map]; exact l, fun e he => by obtain ⟨z, hz, rfl⟩ := List.mem_map.mp he; exact .inl ⟨z, h z hz, rfl⟩⟩)
  | x is l h => exact .inr (.inr ⟨_, rfl, by rw [List.length_map]; exact l, fun e he => by obtain ⟨z, hz, rfl⟩ := List.mem_map.mp he; exact .inr ⟨z, by have := h z hz; omega, rfl⟩⟩)
theorem wPart_len {d : PyData} (h : PartP d) : (wPart d).length ≤ 30 := by
  rcases h with ⟨z, hz, rfl⟩ | ⟨i, hi, rfl⟩
  · have := (kS_ok z hz).2.1
    exact Nat.le_trans this (by decide)
  · exact (num_ok i (List.mem_range.mpr hi)).1.1.2
theorem lay_int {i : Nat} (hi : i < 41) : ((i : Int)).natAbs.log2 < 1920 := by
  have : (i : Int).natAbs < 2 ^ 1919 := Nat.lt_of_lt_of_le (show (i : Int).natAbs < 64 by omega) (by decide +kernel)
  by_cases h0 : (i : Int).natAbs = 0
  · rw [h0]; decide
  · have := (Nat.log2_lt h0).mpr this
    omega
def spIt : Sp := fun vs H Q _ => ∃ (x : V) (d : PyData) (n c : Nat), vs = [x] ∧ Dq H x d ∧ n ≤ 40 ∧ (It n c d ∨ ∃ z, d = .str z) ∧ ∀ H', Evl.Ex H H' → Q (.str (wordOf d)) H'
def spNum : Sp := fun vs H Q _ => ∃ i : Nat, vs = [.str (nS i)] ∧ i < 41 ∧ ∀ H', Evl.Ex H H' → Q (.int i) H'
theorem boot_tuple' : bootBuiltins "tuple" = some (.type "tuple") := by kernel_rfl
/-- str(e), e a text or a number -/
def rStr2 : List V → Hp → VK → Prop := fun xs H Q => (∃ i, xs = [V.int i] ∧ i.natAbs.log2 < 1920 ∧ Q (.str (Str.ofString (toString i))) H) ∨ ∃ a, xs = [V.str a] ∧ Q (.str a) H
theorem call_str2 {X : Cx} : CallR X (.type "str") rStr2 := call_str_int.or SkE.call_str_str
structure FD (w : World) (K : PySem.W.Frag) (mg : Str → Option Value) : Prop where
  cd : CD w K mg
  number_of : ∃ f fd, mg "number_of" = some (.ref f) ∧ FnP K "number_of" (top 37) f fd
  item_text : ∃ f fd, mg "item_text" = some (.ref f) ∧ FnP K "item_text" (top 38) f fd
  method_lines : ∃ f fd, mg "method_lines" = some (.ref f) ∧ FnP K "method_lines" (top 39) f fd
  format_class : ∃ f fd, mg "format_class" = some (.ref f) ∧ FnP K "format_class" (top 40) f fd
  item_of : ∃ f fd, mg "item_of" = some (.ref f) ∧ FnP K "item_of" (top 41) f fd
  instruction_of : ∃ f fd, mg "instruction_of" = some (.ref f) ∧ FnP K "instruction_of" (top 42) f fd
  _law_item : ∃ f fd, mg "_law_item" = some (.ref f) ∧ FnP K "_law_item" (top 56) f fd
  _law_written : ∃ f fd, mg "_law_written" = some (.ref f) ∧ FnP K "_law_written" (top 57) f fd
  dig : ∃ t, mg "DIGITS" = some (.str digS t)
  d30 : ∃ t, mg "MOST_DIGITS" = some (.int 30 t)
theorem FD.t {w : World} {K : PySem.W.Frag} {mg : Str → Option Value} (D : FD w K mg) : Txt K mg := D.cd.dd.d.t
section
variable {P : Program} {w : World} {K : PySem.W.Frag} {mg : Str → Option Value} {base : Heap} {f : Addr} {fd : FuncData}
abbrev snumber_of : Stmt := top 37
abbrev nnumber_of : List Str := ["word", "sign"]
theorem scnumber_of : FnScope nnumber_of ["word"] (defScope snumber_of) := ⟨rfl, rfl, rfl, by decide +kernel, rfl, by decide +kernel, by decide +kernel⟩
theorem oknumber_of (F : FnP K "number_of" snumber_of f fd) (D : FD w K mg) : FnOk P w K mg base CX0 1 f fd ["word"] spNum := by
  have T := D.t
  obtain ⟨tg, gD⟩ := D.dig
  obtain ⟨t30, g30⟩ := D.d30
  refine F.ok scnumber_of (fun vs H Q E h => ?_) (fun cdv A outer s H vs Q E hr h => ?_)
  · obtain ⟨i, rfl, _⟩ := h
    rfl
  · obtain ⟨i, rfl, hi, hQ⟩ := h
    refine ⟨_, PSs.nox (pss_cons (ps_if (PW.pt (pw_or (pt_not (pt_chain op_le op_le pe_int (pe_callB call_len rfl T.len boot_len (pa_cons (pv 0) pa_nil)) (pe_glob rfl g30 (v := .int 30) ⟨t30, rfl⟩))) (pw_or1 (pt_not (pt_val (pe_callB (cr_all rfl) rfl T.all boot_all (pa_cons (pe_lc (own := [("sign", 1)]) (g := gName 1) (tt := tYes) rfl scnumber_of.nd (pi_str (pv 0)) (blkOk_by (N := nnumber_of) (sc := defScope snumber_of) (by decide +kernel)) (fun _ _ _ _ _ => (pg_name (i := 1) scnumber_of.nd rfl (Or.inl rfl))) (fun _ _ _ _ _ => pts_nil) (fun _ _ _ _ _ => (pe_cmpR op_in_sign (pv 1) (pe_glob rfl gD (v := .str digS) ⟨tg, rfl⟩) (by rfl)))) pa_nil)))))))
        (pss_one (ps_ret pe_non))
        pss_nil)
      (pss_one (ps_ret (pe_ifExp (PW.pt (pw_or (pt_cmpR op_eq (pv 0) pe_str (nomark _)) (pw_or1 (pt_cmpR op_ne (pe_ix ix_str (pv 0) pe_int (fun _ _ => rfl)) pe_str (nomark _))))) (pe_callTy call_int_str rfl T.int boot_int (pa_cons (pv 0) pa_nil)) pe_non)))), ?_⟩
    obtain ⟨⟨⟨n1, n2⟩, n3⟩, n4, n5, n6⟩ := num_ok i (List.mem_range.mpr hi)
    have hlz : (nS i).length = (nS i).cps.toList.length := by simp [Str.length]
    refine ⟨_, rfl, _, _, rfl, ⟨le_line (by omega), rfl⟩, _, _, rfl, rfl, _, rfl, ?_⟩
    refine ifT (decide_eq_true (by omega)) ⟨_, _, rfl, rfl, _, rfl, ?_⟩
    refine ifF (by rw [decide_eq_true (show ((nS i).length : Int) ≤ 30 by omega)]; rfl) ?_
    refine ⟨_, rfl, _, rfl, fun L hL => ?_⟩
    refine lc_map (walk_str (z := nS i)) hL (fun _ _ => trivial) (fun _ => .bl true) (by have : (nS i).length = (nS i).cps.size := rfl; omega) (fun j H3 x H4 _ _ y => by rw [y.1]; exact Evl.Ex.refl _) ?_ ?_
    · rintro j x H3 H4 hj e3 _ ⟨rfl, c, hc, rfl⟩ Qt hQt
      refine ⟨rfl, _, rfl, c, digS, rfl, rfl, ?_⟩
      rw [decide_eq_true (n3 c (List.mem_of_getElem? (by simpa using hc)))]
      exact hQt _ (Evl.Ex.refl _)
    intro H3 e3 hL3
    refine ⟨L, (List.range _).map fun _ => true, rfl, SqL.of (by rw [hL3, List.map_map]; rfl), ?_⟩
    rw [show ((List.range _).map fun _ => true).all id = true from by simp]
    refine ⟨_, rfl, iteF ?_⟩
    refine ⟨_, rfl, rfl, _, rfl, ?_⟩
    by_cases h0 : nS i = "0"
    · refine ifT (decide_eq_true (by rw [h0])) ⟨_, rfl, nS i, (i : Int), rfl, n5, by omega, hQ _ e3⟩
    · have h48 := n4.resolve_left h0
      refine ifF (decide_eq_false fun e => h0 (V.str.inj e)) ?_
      have hc0 : (nS i).cps.toList[0]? = some ((nS i).cps.toList.headD 0) := by
        cases hz : (nS i).cps.toList with
        | nil => rw [hz] at hlz; simp at hlz; omega
        | cons c r => rfl
      refine ⟨_, rfl, nS i, 0, _, rfl, rfl, le_line (by omega), atI_nat (j := 0) hc0, rfl, _, rfl, ?_⟩
      refine ifT ?_ ⟨_, rfl, nS i, (i : Int), rfl, n5, by omega, hQ _ e3⟩
      rw [decide_eq_false]
      · rfl
      · intro e
        have := congrArg (fun z : Str => z.cps.toList.headD 0) (V.str.inj e)
        exact h48 (this.trans (by decide +kernel))
theorem dash0 {ds : List PyData} (h : ds ≠ []) : wordOf (.tuple ds) = Txt.join commaS (ds.map wPart) := by
  cases ds with
  | nil => exact absurd rfl h
  | cons _ _ => rfl
theorem part_str {H : Hp} {x : V} {e : PyData} (h : PartP e) (q : Dq H x e) {Q : VK} (hQ : Q (.str (wPart e)) H) : rStr2 [x] H Q := by
  rcases h with ⟨z, hz, rfl⟩ | ⟨i, hi, rfl⟩
  · cases q
    exact .inr ⟨z, rfl, hQ⟩
  · cases q
    exact .inl ⟨_, rfl, lay_int hi, hQ⟩
abbrev sitem_text : Stmt := top 38
abbrev nitem_text : List Str := ["item", "part"]
theorem scitem_text : FnScope nitem_text ["item"] (defScope sitem_text) := ⟨rfl, rfl, rfl, by decide +kernel, rfl, by decide +kernel, by decide +kernel⟩
theorem okitem_text (F : FnP K "item_text" sitem_text f fd) (D : FD w K mg) : FnOk P w K mg base CX0 1 f fd ["item"] spIt := by
  have T := D.t
  refine F.ok scitem_text (fun vs H Q E h => ?_) (fun cdv A outer s H vs Q E hr h => ?_)
  · obtain ⟨x, d, n, c, rfl, _⟩ := h
    rfl
  · obtain ⟨x, d, n, c, rfl, hd, hn, hit, hQ⟩ := h
    refine ⟨_, PSs.nox (pss_cons (ps_if (pt_not (pt_val (pe_callB call_isi rfl T.isi boot_isi (pa_cons (pv 0) (pa_cons (pe_bltn rfl T.tup boot_tuple (v := .ty "tuple") rfl) pa_nil)))))
        (pss_one (ps_ret (pe_callTy call_str2 rfl T.str boot_str (pa_cons (pv 0) pa_nil))))
        pss_nil)
      (pss_one (ps_ret (pe_ifExp (pt_cmpR (op_neD hr.units) (pv 0) (pe_tup pa_nil) (nomark _)) (pe_join pe_str (pe_lc (own := [("part", 1)]) (g := gName 1) (tt := tYes) rfl scitem_text.nd (pi_tup (pv 0)) (blkOk_by (N := nitem_text) (sc := defScope sitem_text) (by decide +kernel)) (fun _ _ _ _ _ => (pg_name (i := 1) scitem_text.nd rfl (Or.inl rfl))) (fun _ _ _ _ _ => pts_nil) (fun _ _ _ _ _ => (pe_callTy call_str2 rfl T.str boot_str (pa_cons (pv 1) pa_nil))))) pe_str)))), ?_⟩
    refine ⟨_, rfl, _, _, _, _, _, rfl, .ty "tuple", ty_of hd, kit_ty (kit_tupD d), _, rfl, ?_⟩
    rcases hit with hit | ⟨z0, rfl⟩
    case' inr =>
      cases hd
      exact iteT ⟨_, rfl, .inr ⟨z0, rfl, hQ _ (Evl.Ex.refl _)⟩⟩
    rcases it_parts hn hit with ⟨z, rfl, hz⟩ | ⟨i, hi, rfl⟩ | ⟨ds, rfl, hl, hp⟩
    · cases hd
      exact iteT ⟨_, rfl, .inr ⟨z, rfl, hQ _ (Evl.Ex.refl _)⟩⟩
    · cases hd
      exact iteT ⟨_, rfl, .inl ⟨_, rfl, lay_int hi, hQ _ (Evl.Ex.refl _)⟩⟩
    · obtain ⟨a, xs, rfl, ha, hall⟩ := hd.tupI
      have hxl := hall.length
      refine iteF ⟨_, rfl, Nat.zero_le _, fun p0 hp0 => ?_⟩
      have e0 := Evl.Ex.new (o := .tup []) hp0
      have hlay : PyData.canLay0 (.tuple ds) = true := lay_of _ (it_ok hit).1 (it_ok hit).2
      have hsh : SeqAt.shaped (.tuple ds) = true := by
        unfold SeqAt.shaped
        rw [hlay, decide_eq_true (Nat.le_trans (it_depth hit) (by decide))]
        rfl
      refine ⟨_, _, dp_of (Dq.ext e0 (.tup ha hall)) hlay, dp_of (.tup (xs := []) (ds := []) upd_same .nil) rfl, hsh, by decide +kernel, _, rfl, ?_⟩
      by_cases h0 : ds = []
      · subst h0
        exact ifF (by decide +kernel) (hQ _ e0)
      · refine ifT ?_ ?_
        · cases ds with
          | nil => exact absurd rfl h0
          | cons e ds => rfl
        · have ha0 := e0 _ _ ha
          refine ⟨⟨_, rfl⟩, _, rfl, a, rfl, ⟨_, SqT.of ha0⟩, fun L hL => ?_⟩
          refine lc_map (walk_tup (K := K) (a := a) (xs := xs)) hL (fun H' e => SqT.of (e _ _ ha0)) (fun j => .str (wPart (ds.getD j .none))) (by omega) (fun j H3 x H4 _ _ y => by rw [y.1]; exact Evl.Ex.refl _) ?_ ?_
          · rintro j x H3 H4 hj e3 _ ⟨rfl, hx⟩ Qt hQt
            obtain ⟨e, he, hq⟩ := hall.get hx
            have eg : ds.getD j .none = e := by rw [List.getD_eq_getElem?_getD, he]; rfl
            rw [eg] at hQt
            exact ⟨rfl, _, rfl, part_str (hp e (List.mem_of_getElem? he)) (hq.ext (e0.trans e3)) (hQt _ (Evl.Ex.refl _))⟩
          intro H3 e3 hL3
          rw [hxl, range_map_get ds (fun e => V.str (wPart e)) _ (fun i e he => by rw [List.getD_eq_getElem?_getD, he]; rfl)] at hL3
          refine ⟨commaS, L, ds.map wPart, rfl, rfl, .inl (SqL.of (by rw [hL3, List.map_map]; rfl)), ?_, ?_⟩
          · have hs : ((ds.map wPart).map (·.length)).sum ≤ 60 := by
              match ds, hl, hp with
              | [], _, _ => simp
              | [e], _, hp => have := wPart_len (hp e (by simp)); simp; omega
              | [e, e'], _, hp => have := wPart_len (hp e (by simp)); have := wPart_len (hp e' (by simp)); simp; omega
            rw [List.length_map]
            have : ds.length * commaS.length ≤ 2 * commaS.length := Nat.mul_le_mul_right _ hl
            have hc : commaS.length = 1 := by decide +kernel
            omega
          · rw [← dash0 h0]
            exact hQ _ (e0.trans e3)
end
end K50

set_option Elab.async false
set_option linter.all false
set_option maxRecDepth 100000
/-! what is joined by a sign is split into the same -/
namespace EX2
open PySem PySem.Spec PyProof.Rows
theorem split_join {sep : Str} {c : Nat} (hs : TL.tl sep = [c]) (hk : sep.cps.all (· < 256) = true) {ps : List Str} (hne : ps ≠ []) (h : ∀ p ∈ ps, c ∉ TL.tl p) : Txt.split (Txt.join sep ps) sep = ps := by
  refine TL.map_tl_inj ?_
  rw [TL.split_spl _ _ (by rw [hs]; simp) (TL.kind_ok hk), TL.join_eq, TL.tl_join, hs]
  refine TL.spl_join (fun e => hne (List.map_eq_nil_iff.mp e)) fun p hp => ?_
  obtain ⟨q, hq, rfl⟩ := List.mem_map.mp hp
  exact h q hq
end EX2
set_option Elab.async false
set_option linter.all false
set_option maxRecDepth 100000
set_option maxHeartbeats 1000000
/-! zip of a text and a list -/
namespace RZ
open PySem
open PySem.Sem (wp)
section
variable {prog : Program} {w : World} {A : Around} {E : Value → Shared → Prop} {s : Shared}
theorem zipSl_next_item {z TI TO i1 i2 l1 l2 : Addr} {k1 k2 c0 : Nat} {tx : Str} {tt : Tok} {ys : Array Value} {y a b : Value} {Q : Value → Shared → Prop} (D : ZipApart z TI TO i1 i2 l1 l2)
    (hz : IsZip s.heap z TI TO .none) (hTI : IsPair s.heap TI (.ref i1) (.ref i2)) (hTO : IsPair s.heap TO a b)
    (h1 : s.heap.IsStrIter i1 "str_ascii_iterator" tx tt k1) (h2 : s.heap.IsListIter i2 l2 k2) (hl2 : s.heap.IsList l2 ys) (hx : tx.cps[k1]? = some c0) (hy : ys[k2]? = some y)
    (hQ : ∀ h', IsZip h' z TI TO (rawInt s.heap.objs.size) → IsPair h' TO (.str ⟨#[c0]⟩ s.toks) y → h'.IsStrIter i1 "str_ascii_iterator" tx tt (k1 + 1) → h'.IsListIter i2 l2 (k2 + 1) → IsPair h' s.heap.objs.size (.str ⟨#[c0]⟩ s.toks) y → h'.objs.size = s.heap.objs.size + 1 →
      (∀ c o, c ≠ z → c ≠ TO → c ≠ i1 → c ≠ i2 → s.heap.get? c = some o → h'.get? c = some o) → Q (.ref s.heap.objs.size) { s with heap := h', toks := s.toks + 1 }) :
    wpAny (model prog w) A (Builtin.«zip.__next__» ⟨[.ref z], []⟩) (fun fin s' => ∃ v, fin = .done (.ret v) ∧ Q v s') E s := by
  show wpAny _ _ (field (.ref z) 2 >>= _) _ _ _
  refine wpAny_bind (wpAny_field hz rfl (x := .bool false) rfl ?_)
  show wpAny _ _ (field (.ref z) 3 >>= _) _ _ _
  refine wpAny_bind (wpAny_field hz rfl (x := .ref TI) rfl ?_)
  refine wpAny_bind (wpAny_seqItems hTI rfl ?_)
  show wpAny _ _ (Builtin.SmallTypes.ownedTupleIsFree (.ref z) >>= _) _ _ _
  refine wpAny_bind ?_
  unfold Builtin.SmallTypes.ownedTupleIsFree
  refine wpAny_bind (wpAny_field hz rfl (x := .none) rfl (wpAny_pure ?_))
  simp only [if_true]
  refine wpAny_bind (wpAny_rule ?_)
  refine wpAny_bind (wpAny_field hz rfl (x := .ref TO) rfl ?_)
  refine wpAny_bind (wpAny_setField_rec hz (by simp) fun h₁ hz₁ hs₁ => ?_)
  replace hz₁ : IsZip h₁ z TI TO .ellipsis := hz₁
  refine wpAny_bind ?_
  simp only [List.zipIdx_cons, List.zipIdx_nil, List.forIn_cons, List.forIn_nil]

  refine wpAny_bind (wpAny_bind (wpAny_onRaise ?_))
  show wpAny _ _ (Builtin.SmallTypes.nextOf (.ref i1) >>= _) _ _ _
  refine wpAny_bind (wpAny_nextOf_ascii_item (h1.extBut hs₁.extBut D.i1z) hx fun h₂ h1₂ hs₂ => wpAny_pure ?_)
  have hTO₂ : IsPair h₂ TO a b := hs₂.extBut _ _ D.TOi1 (hs₁.extBut _ _ D.TOz hTO)
  refine wpAny_bind (wpAny_seqItems hTO₂ rfl ?_)
  refine wpAny_bind (wpAny_updateSeq_pair hTO₂ fun h₃ hTO₃ hs₃ => ?_)
  replace hTO₃ : IsPair h₃ TO (.str ⟨#[c0]⟩ s.toks) b := hTO₃
  refine wpAny_bind (wpAny_letGo (wpAny_pure ?_))

  refine wpAny_bind (wpAny_bind (wpAny_onRaise ?_))
  show wpAny _ _ (Builtin.SmallTypes.nextOf (.ref i2) >>= _) _ _ _
  refine wpAny_bind (wpAny_nextOf_list_item (((h2.extBut hs₁.extBut D.i2z).extBut hs₂.extBut D.i12.symm).extBut hs₃.extBut D.TOi2.symm)
    (((hl2.extBut hs₁.extBut D.l2z).extBut hs₂.extBut D.l2i1).extBut hs₃.extBut D.l2TO) hy fun h₄ h2₄ hs₄ => wpAny_pure ?_)
  have hTO₄ : IsPair h₄ TO (.str ⟨#[c0]⟩ s.toks) b := hs₄.extBut _ _ D.TOi2 hTO₃
  refine wpAny_bind (wpAny_seqItems hTO₄ rfl ?_)
  refine wpAny_bind (wpAny_updateSeq_pair hTO₄ fun h₅ hTO₅ hs₅ => ?_)
  replace hTO₅ : IsPair h₅ TO (.str ⟨#[c0]⟩ s.toks) y := hTO₅
  refine wpAny_bind (wpAny_letGo (wpAny_pure (wpAny_pure ?_)))

  refine wpAny_bind (wpAny_seqItems hTO₅ rfl ?_)
  refine wpAny_bind (wpAny_newTuple ?_)
  have hsz : h₅.objs.size = s.heap.objs.size := by rw [hs₅.1, hs₄.1, hs₃.1, hs₂.1, hs₁.1]
  have hz₅ : IsZip h₅ z TI TO .ellipsis := hs₅.extBut _ _ D.TOz.symm (hs₄.extBut _ _ D.i2z.symm (hs₃.extBut _ _ D.TOz.symm (hs₂.extBut _ _ D.i1z.symm hz₁)))
  have hk₅ : ∀ c o, c ≠ z → c ≠ TO → c ≠ i1 → c ≠ i2 → s.heap.get? c = some o → h₅.get? c = some o := fun c o c1 c2 c3 c4 e =>
    hs₅.extBut _ _ c2 (hs₄.extBut _ _ c4 (hs₃.extBut _ _ c2 (hs₂.extBut _ _ c3 (hs₁.extBut _ _ c1 e))))
  have h1₅ : h₅.IsStrIter i1 "str_ascii_iterator" tx tt (k1 + 1) := ((h1₂.extBut hs₃.extBut D.TOi1.symm).extBut hs₄.extBut D.i12).extBut hs₅.extBut D.TOi1.symm
  have h2₅ : h₅.IsListIter i2 l2 (k2 + 1) := h2₄.extBut hs₅.extBut D.TOi2.symm
  have hzlt : z < h₅.objs.size := Heap.lt_size hz₅
  have hTOlt : TO < h₅.objs.size := Heap.lt_size hTO₅
  have hi1lt : i1 < h₅.objs.size := by obtain ⟨_, e, _⟩ := h1₅; exact Heap.lt_size e
  have hi2lt : i2 < h₅.objs.size := by obtain ⟨_, e, _⟩ := h2₅; exact Heap.lt_size e
  show wpAny _ _ (Builtin.SmallTypes.ownedTupleHandOut (.ref z) (.ref h₅.objs.size) >>= _) _ _ _
  refine wpAny_bind ?_
  unfold Builtin.SmallTypes.ownedTupleHandOut
  have hz₆ : IsZip (h₅.push { cls := .type "tuple", data := .seq #[.str ⟨#[c0]⟩ s.toks, y] }) z TI TO .ellipsis := Heap.get?_push_of_some _ hz₅
  refine wpAny_bind (wpAny_setField_rec hz₆ (by simp) fun h₇ hz₇ hs₇ => ?_)
  replace hz₇ : IsZip h₇ z TI TO (rawInt h₅.objs.size) := hz₇
  refine wpAny_setField_rec hz₇ (by simp) fun h₈ hz₈ hs₈ => ?_
  replace hz₈ : IsZip h₈ z TI TO (rawInt h₅.objs.size) := hz₈
  have up : ∀ c o, c ≠ z → h₅.get? c = some o → h₈.get? c = some o := fun c o c1 e => hs₈.extBut _ _ c1 (hs₇.extBut _ _ c1 (Heap.get?_push_of_some _ e))
  have hT₈ : IsPair h₈ h₅.objs.size (.str ⟨#[c0]⟩ s.toks) y := hs₈.extBut _ _ (Nat.ne_of_gt hzlt) (hs₇.extBut _ _ (Nat.ne_of_gt hzlt) (Heap.get?_push_size _ rfl))
  have hz8 : h₈.objs.size = h₅.objs.size + 1 := by rw [hs₈.1, hs₇.1, Heap.size_push]
  rw [hsz] at hz₈ hT₈ hz8
  refine wpAny_pure ⟨_, rfl, ?_⟩
  show Q (.ref h₅.objs.size) _
  rw [hsz]
  exact hQ h₈ hz₈ (up _ _ D.TOz hTO₅) (let ⟨o, ho, r⟩ := h1₅; ⟨o, up _ o D.i1z ho, r⟩) (h2₅.at fun o e => up _ o D.i2z e) hT₈ hz8 fun c o c1 c2 c3 c4 e => up c o c1 (hk₅ c o c1 c2 c3 c4 e)

theorem zipSl_next_end {z TI TO i1 i2 l1 l2 : Addr} {k1 k2 : Nat} {tx : Str} {tt : Tok} {ys : Array Value} {a b : Value} {Q : Fin → Shared → Prop} (hh : A.handled = none) (D : ZipApart z TI TO i1 i2 l1 l2)
    (hz : IsZip s.heap z TI TO .none) (hTI : IsPair s.heap TI (.ref i1) (.ref i2)) (hTO : IsPair s.heap TO a b)
    (h1 : s.heap.IsStrIter i1 "str_ascii_iterator" tx tt k1) (h2 : s.heap.IsListIter i2 l2 k2) (hl2 : s.heap.IsList l2 ys) (hend : tx.cps[k1]? = none ∨ ys[k2]? = none)
    (hE : ∀ h' e tk, (∀ c o, c ≠ z → c ≠ TO → c ≠ i1 → c ≠ i2 → s.heap.get? c = some o → h'.get? c = some o) → (∃ o, h'.get? e = some o ∧ o.cls = .type "StopIteration") → E (.ref e) { s with heap := h', toks := tk }) :
    wpAny (model prog w) A (Builtin.«zip.__next__» ⟨[.ref z], []⟩) Q E s := by
  show wpAny _ _ (field (.ref z) 2 >>= _) _ _ _
  refine wpAny_bind (wpAny_field hz rfl (x := .bool false) rfl ?_)
  show wpAny _ _ (field (.ref z) 3 >>= _) _ _ _
  refine wpAny_bind (wpAny_field hz rfl (x := .ref TI) rfl ?_)
  refine wpAny_bind (wpAny_seqItems hTI rfl ?_)
  show wpAny _ _ (Builtin.SmallTypes.ownedTupleIsFree (.ref z) >>= _) _ _ _
  refine wpAny_bind ?_
  unfold Builtin.SmallTypes.ownedTupleIsFree
  refine wpAny_bind (wpAny_field hz rfl (x := .none) rfl (wpAny_pure ?_))
  simp only [if_true]
  refine wpAny_bind (wpAny_rule ?_)
  refine wpAny_bind (wpAny_field hz rfl (x := .ref TO) rfl ?_)
  refine wpAny_bind (wpAny_setField_rec hz (by simp) fun h₁ hz₁ hs₁ => ?_)
  replace hz₁ : IsZip h₁ z TI TO .ellipsis := hz₁
  refine wpAny_bind ?_
  simp only [List.zipIdx_cons, List.zipIdx_nil, List.forIn_cons, List.forIn_nil]
  refine wpAny_bind (wpAny_bind (wpAny_onRaise ?_))
  show wpAny _ _ (Builtin.SmallTypes.nextOf (.ref i1) >>= _) _ _ _
  cases hx : tx.cps[k1]? with
  | none =>
    refine wpAny_bind (wpAny_nextOf_ascii_end hh (h1.extBut hs₁.extBut D.i1z) hx fun h₂ e hs₂ he => ?_)
    obtain ⟨oe, hoe, hce⟩ := he
    have hz₂ : IsZip h₂ z TI TO .ellipsis := hs₂ _ _ D.i1z.symm hz₁
    have hez : e ≠ z := fun x => by subst x; rw [hz₂] at hoe; cases hoe; simp at hce
    refine wpAny_setField_rec hz₂ (by simp) fun h₃ _ hs₃ => hE h₃ e _ (fun c o c1 _ c3 _ x => hs₃.extBut _ _ c1 (hs₂ _ _ c3 (hs₁.extBut _ _ c1 x))) ⟨oe, hs₃.extBut _ _ hez hoe, hce⟩
  | some c0 =>
    have hy : ys[k2]? = none := by rcases hend with h | h; rw [hx] at h; cases h; exact h
    refine wpAny_bind (wpAny_nextOf_ascii_item (h1.extBut hs₁.extBut D.i1z) hx fun h₂ h1₂ hs₂ => wpAny_pure ?_)
    have hTO₂ : IsPair h₂ TO a b := hs₂.extBut _ _ D.TOi1 (hs₁.extBut _ _ D.TOz hTO)
    refine wpAny_bind (wpAny_seqItems hTO₂ rfl ?_)
    refine wpAny_bind (wpAny_updateSeq_pair hTO₂ fun h₃ hTO₃ hs₃ => ?_)
    refine wpAny_bind (wpAny_letGo (wpAny_pure ?_))
    refine wpAny_bind (wpAny_bind (wpAny_onRaise ?_))
    show wpAny _ _ (Builtin.SmallTypes.nextOf (.ref i2) >>= _) _ _ _
    refine wpAny_bind (wpAny_nextOf_list_end hh (((h2.extBut hs₁.extBut D.i2z).extBut hs₂.extBut D.i12.symm).extBut hs₃.extBut D.TOi2.symm)
      (((hl2.extBut hs₁.extBut D.l2z).extBut hs₂.extBut D.l2i1).extBut hs₃.extBut D.l2TO) hy fun h₄ e hs₄ he => ?_)
    obtain ⟨oe, hoe, hce⟩ := he
    have hz₄ : IsZip h₄ z TI TO .ellipsis := hs₄ _ _ D.i2z.symm (hs₃.extBut _ _ D.TOz.symm (hs₂.extBut _ _ D.i1z.symm hz₁))
    have hez : e ≠ z := fun x => by subst x; rw [hz₄] at hoe; cases hoe; simp at hce
    refine wpAny_setField_rec hz₄ (by simp) fun h₅ _ hs₅ => hE h₅ e _ (fun c o c1 c2 c3 c4 x => hs₅.extBut _ _ c1 (hs₄ _ _ c4 (hs₃.extBut _ _ c2 (hs₂.extBut _ _ c3 (hs₁.extBut _ _ c1 x))))) ⟨oe, hs₅.extBut _ _ hez hoe, hce⟩

theorem pyNext_zipSl_item {z TI TO i1 i2 l1 l2 : Addr} {k1 k2 c0 : Nat} {tx : Str} {tt : Tok} {ys : Array Value} {y a b : Value} {Q : Option Value → Shared → Prop} (D : ZipApart z TI TO i1 i2 l1 l2)
    (hz : IsZip s.heap z TI TO .none) (hTI : IsPair s.heap TI (.ref i1) (.ref i2)) (hTO : IsPair s.heap TO a b)
    (h1 : s.heap.IsStrIter i1 "str_ascii_iterator" tx tt k1) (h2 : s.heap.IsListIter i2 l2 k2) (hl2 : s.heap.IsList l2 ys) (hx : tx.cps[k1]? = some c0) (hy : ys[k2]? = some y)
    (hQ : ∀ h', IsZip h' z TI TO (rawInt s.heap.objs.size) → IsPair h' TO (.str ⟨#[c0]⟩ s.toks) y → h'.IsStrIter i1 "str_ascii_iterator" tx tt (k1 + 1) → h'.IsListIter i2 l2 (k2 + 1) → IsPair h' s.heap.objs.size (.str ⟨#[c0]⟩ s.toks) y → h'.objs.size = s.heap.objs.size + 1 →
      (∀ c o, c ≠ z → c ≠ TO → c ≠ i1 → c ≠ i2 → s.heap.get? c = some o → h'.get? c = some o) → Q (some (.ref s.heap.objs.size)) { s with heap := h', toks := s.toks + 1 }) :
    wpAny (model prog w) A (pyNext (.ref z)) Q E s := by
  have hT : s.TypeIs (.ref z) "zip" := ⟨_, hz, rfl⟩
  unfold pyNext
  exact wpAny_bind (wpAny_attempt (wpAny_callSpecial?_slot (name := Str.ofString "__next__") hT F.slot_zip_next
    (wpAny_call_entry F.slot_zip_next hT F.entry_zip_next
      (zipSl_next_item D hz hTI hTO h1 h2 hl2 hx hy fun h' a1 a2 a3 a4 a5 a6 a7 => wpAny_pure (hQ h' a1 a2 a3 a4 a5 a6 a7)) (F.args_zip_next_1 _))))

theorem pyNext_zipSl_end {z TI TO i1 i2 l1 l2 : Addr} {k1 k2 : Nat} {tx : Str} {tt : Tok} {ys : Array Value} {a b : Value} {Q : Option Value → Shared → Prop} (hh : A.handled = none) (D : ZipApart z TI TO i1 i2 l1 l2)
    (hz : IsZip s.heap z TI TO .none) (hTI : IsPair s.heap TI (.ref i1) (.ref i2)) (hTO : IsPair s.heap TO a b)
    (h1 : s.heap.IsStrIter i1 "str_ascii_iterator" tx tt k1) (h2 : s.heap.IsListIter i2 l2 k2) (hl2 : s.heap.IsList l2 ys) (hend : tx.cps[k1]? = none ∨ ys[k2]? = none)
    (hQ : ∀ h' tk, (∀ c o, c ≠ z → c ≠ TO → c ≠ i1 → c ≠ i2 → s.heap.get? c = some o → h'.get? c = some o) → Q none { s with heap := h', toks := tk }) : wpAny (model prog w) A (pyNext (.ref z)) Q E s := by
  have hT : s.TypeIs (.ref z) "zip" := ⟨_, hz, rfl⟩
  unfold pyNext
  refine wpAny_bind (wpAny_attempt (wpAny_callSpecial?_slot (name := Str.ofString "__next__") hT F.slot_zip_next
    (wpAny_call_entry F.slot_zip_next hT F.entry_zip_next (zipSl_next_end hh D hz hTI hTO h1 h2 hl2 hend fun h' e tk hk he => ?_) (F.args_zip_next_1 _))))
  obtain ⟨o, ho, hc⟩ := he
  refine wpAny_bind (wpAny_isInstance (T := "StopIteration") (b := true) ⟨o, ho, hc⟩ isSubtype_stop ?_)
  exact wpAny_pure (hQ _ _ hk)
end


abbrev zipSLH1 (h : Heap) (tx : Str) (tt : Tok) : Heap := h.push { cls := .type "str_ascii_iterator", data := .fields #[.str tx tt, .int 0 0] }
abbrev zipSLH2 (h : Heap) (tx : Str) (tt : Tok) (l2 : Addr) : Heap := (zipSLH1 h tx tt).push { cls := .type "list_iterator", data := .fields #[.ref l2, .int 0 0] }
abbrev zipSLH3 (h : Heap) (tx : Str) (tt : Tok) (l2 : Addr) : Heap := (zipSLH2 h tx tt l2).push { cls := .type "tuple", data := .seq #[.ref h.objs.size, .ref (zipSLH1 h tx tt).objs.size] }
abbrev zipSLH4 (h : Heap) (tx : Str) (tt : Tok) (l2 : Addr) : Heap := (zipSLH3 h tx tt l2).push { cls := .type "tuple", data := .seq #[.none, .none] }
abbrev zipSLH5 (h : Heap) (tx : Str) (tt : Tok) (l2 : Addr) : Heap := (zipSLH4 h tx tt l2).push { cls := .type "zip", data := .fields #[.none, .bool false, .bool false, .ref (zipSLH2 h tx tt l2).objs.size, .ref (zipSLH3 h tx tt l2).objs.size] }
theorem meets_zipSl_new (tx : Str) (tt : Tok) (l2 : Addr) (ys : Array Value) (ha : tx.cps.all (· < 128) = true) :
    Meets (Builtin.«zip.__new__» ⟨[.type "zip", .str tx tt, .ref l2], []⟩) (fun _ R s => s.heap.IsList l2 ys ∧
      R (.ok (.ret (.ref (zipSLH4 s.heap tx tt l2).objs.size))) { s with heap := zipSLH5 s.heap tx tt l2 }) :=
  .of_wp fun prog w A R s h => by
    obtain ⟨hp, g, d, tk, os⟩ := s; obtain ⟨hl2, h⟩ := h
    have hsub := sub_zip
    have hL2 : Heap.IsList (Shared.heap ⟨hp.push { cls := .type "str_ascii_iterator", data := .fields #[.str tx tt, .int 0 0] }, g, d, tk, os⟩) l2 ys := Heap.IsList.push hl2 _
    wp_walk using wpAny_pyIter_ascii ha, wpAny_pyIter_list hL2
    exact ⟨_, rfl, h⟩
section
variable {prog : Program} {w : World} {A : Around} {E : Value → Shared → Prop} {s : Shared}
theorem call_zipSl {tx : Str} {tt : Tok} {l2 : Addr} {ys : Array Value} {Q : Value → Shared → Prop} (ha : tx.cps.all (· < 128) = true) (hl2 : s.heap.IsList l2 ys)
    (h : ∀ h', IsZip h' (s.heap.objs.size + 4) (s.heap.objs.size + 2) (s.heap.objs.size + 3) .none → IsPair h' (s.heap.objs.size + 2) (.ref s.heap.objs.size) (.ref (s.heap.objs.size + 1)) →
      IsPair h' (s.heap.objs.size + 3) .none .none → h'.IsStrIter s.heap.objs.size "str_ascii_iterator" tx tt 0 → h'.IsListIter (s.heap.objs.size + 1) l2 0 → h'.objs.size = s.heap.objs.size + 5 →
      (∀ c o, s.heap.get? c = some o → h'.get? c = some o) → Q (.ref (s.heap.objs.size + 4)) { s with heap := h' }) :
    wpAny (model prog w) A (call (.type "zip") [.str tx tt, .ref l2]) Q E s := by
  refine callType_new F.called_zip (by decide) (F.typeCall_zip_2 _ _) (F.newCall_zip_2 _ _) (fun obj => F.args_object_init_3 obj _ _) F.entry_zip_new
    (meets_zipSl_new tx tt l2 ys ha) ⟨hl2, ?_⟩
  have z1 : (zipSLH1 s.heap tx tt).objs.size = s.heap.objs.size + 1 := Heap.size_push ..
  have z2 : (zipSLH2 s.heap tx tt l2).objs.size = s.heap.objs.size + 2 := by rw [Heap.size_push, z1]
  have z3 : (zipSLH3 s.heap tx tt l2).objs.size = s.heap.objs.size + 3 := by rw [Heap.size_push, z2]
  have z4 : (zipSLH4 s.heap tx tt l2).objs.size = s.heap.objs.size + 4 := by rw [Heap.size_push, z3]
  have z5 : (zipSLH5 s.heap tx tt l2).objs.size = s.heap.objs.size + 5 := by rw [Heap.size_push, z4]
  have g5 : (zipSLH5 s.heap tx tt l2).get? (zipSLH4 s.heap tx tt l2).objs.size = some _ := Heap.get?_push_size _ rfl
  have g4 : (zipSLH5 s.heap tx tt l2).get? (zipSLH3 s.heap tx tt l2).objs.size = some _ := Heap.get?_push_of_some _ (Heap.get?_push_size _ rfl)
  have g3 : (zipSLH5 s.heap tx tt l2).get? (zipSLH2 s.heap tx tt l2).objs.size = some _ := Heap.get?_push_of_some _ (Heap.get?_push_of_some _ (Heap.get?_push_size _ rfl))
  have g2 : (zipSLH5 s.heap tx tt l2).get? (zipSLH1 s.heap tx tt).objs.size = some _ := Heap.get?_push_of_some _ (Heap.get?_push_of_some _ (Heap.get?_push_of_some _ (Heap.get?_push_size _ rfl)))
  have g1 : (zipSLH5 s.heap tx tt l2).get? s.heap.objs.size = some _ := Heap.get?_push_of_some _ (Heap.get?_push_of_some _ (Heap.get?_push_of_some _ (Heap.get?_push_of_some _ (Heap.get?_push_size _ rfl))))
  show _ ∧ _
  rw [z2, z3, z4] at g5
  rw [z1, z2] at g3
  rw [z3] at g4
  rw [z1] at g2
  rw [z4]
  exact ⟨⟨_, g5, rfl⟩, h _ g5 g3 g4 ⟨_, g1, rfl, rfl⟩ ⟨_, g2, rfl, rfl⟩ z5 fun c o x =>
    Heap.get?_push_of_some _ (Heap.get?_push_of_some _ (Heap.get?_push_of_some _ (Heap.get?_push_of_some _ (Heap.get?_push_of_some _ x))))⟩
end
end RZ

namespace ZS
open PySem PySem.Spec PyProof.Rows L2
/-- a text's signs and the items of the list at b, in new pairs -/
def ItzsL (K : PySem.W.Frag) (z : Str) (b : Addr) : It :=
  ⟨fun i H => ∃ (ys : List V) (c : Nat) (y : V), SqL K H b ys ∧ z.cps[i]? = some c ∧ ys[i]? = some y,
    fun i H v H' => ∃ T c y, v = .ref T ∧ H T = none ∧ H' = upd H T (.tup [.str ⟨#[c]⟩, y]) ∧ z.cps[i]? = some c ∧ ∀ ys, SqL K H b ys → ys[i]? = some y,
    fun i H => ∃ ys : List V, SqL K H b ys ∧ (z.cps.size ≤ i ∨ ys.length ≤ i)⟩
theorem turn_zipSl {P : Program} {w : World} {K : PySem.W.Frag} {elts : List Expr} {kk : Nat} {tpos : Pos} {tx : Str} {tt : Tok} {a b z TI TO i1 i2 : Addr} (D : ZipApart z TI TO i1 i2 a b) :
    Turn P w K (.Tuple elts kk tpos) (ItzsL K tx b) [z, TI, TO, i1, i2] z (fun i h => IsZip h z TI TO .none ∧ IsPair h TI (.ref i1) (.ref i2) ∧ (∃ x y, IsPair h TO x y) ∧ h.IsStrIter i1 "str_ascii_iterator" tx tt i ∧ h.IsListIter i2 b i) where
  mem := by simp
  obj := fun i h st c hc => by
    obtain ⟨hz, hTI, ⟨x, y, hTO⟩, ⟨o1, e1, _, d1⟩, ⟨o2, e2, _, d2⟩⟩ := st
    rcases (show c = z ∨ c = TI ∨ c = TO ∨ c = i1 ∨ c = i2 by simpa using hc) with rfl | rfl | rfl | rfl | rfl
    · exact ⟨_, hz, fun v q => nomatch q⟩
    · exact ⟨_, hTI, fun v q => nomatch q⟩
    · exact ⟨_, hTO, fun v q => nomatch q⟩
    · exact ⟨o1, e1, fun v q => by rw [d1] at q; cases q⟩
    · exact ⟨o2, e2, fun v q => by rw [d2] at q; cases q⟩
  keep := fun i h h' st k => by
    obtain ⟨hz, hTI, ⟨x, y, hTO⟩, ⟨o1, e1, r1⟩, h2⟩ := st
    exact ⟨k z (by simp) _ hz, k TI (by simp) _ hTI, ⟨x, y, k TO (by simp) _ hTO⟩, ⟨o1, k i1 (by simp) _ e1, r1⟩, h2.at fun o q => k i2 (by simp) o q⟩
  item := by
    intro X hP hw hK hc i pins s σ H E I hf st hg
    subst hP hw hK
    obtain ⟨hz, hTI, ⟨x0, y0, hTO⟩, h1, h2⟩ := st
    obtain ⟨ys, c, y, hqy, hx, hy⟩ := hg
    obtain ⟨its2, rv2, p2l, _⟩ := I.list hqy
    have p2 := p2l.isList
    obtain ⟨u2, hu2, ru2⟩ := rv2.get hy
    have hzl : z < s.heap.objs.size := Heap.lt_size hz
    refine RZ.pyNext_zipSl_item D hz hTI hTO h1 h2 p2 (c0 := c) (y := u2) hx (by simpa using hu2) fun h' z' TO' h1' h2' hT hsz hk => ?_
    refine ⟨_, rfl, wpAny_letOwnedTupleGo_zip (s := { s with heap := h', toks := s.toks + 1 }) z' fun h'' z'' sb => ?_⟩
    have hT2 : h''.get? s.heap.objs.size = some { cls := .type "tuple", data := .seq #[.str ⟨#[c]⟩ s.toks, u2] } := (sb.2 _ (Nat.ne_of_gt hzl)).trans hT
    have new : ObjOk X.prog X.w (upd H s.heap.objs.size (.tup [.str ⟨#[c]⟩, y])) h'' s.heap.objs.size (.tup [.str ⟨#[c]⟩, y]) :=
      ⟨by show 2 ≤ sizeLine; decide, [.str ⟨#[c]⟩ s.toks, u2], .cons ⟨_, rfl⟩ (.cons ru2 .nil), ⟨_, hT2, rfl, _, rfl⟩⟩
    have I1 : Inv X pins σ (upd H s.heap.objs.size (.tup [.str ⟨#[c]⟩, y])) { s with heap := h'', toks := s.toks + 1 } :=
      I.turnedNew (t' := s.toks + 1) (ch := [z, TI, TO, i1, i2]) (fun c o hb q => (sb.2 c (fun q' => hb (by simp [q']))).trans (hk c o (fun q' => hb (by simp [q'])) (fun q' => hb (by simp [q'])) (fun q' => hb (by simp [q'])) (fun q' => hb (by simp [q'])) q)) hf (Nat.le_refl _) new
    refine ⟨.ref s.heap.objs.size, _, I1, rfl, ⟨_, c, y, rfl, I.hok.fresh (Nat.le_refl _), rfl, hx, fun l hl => by rw [I.list_inj hl hqy]; exact hy⟩, ⟨z'', ?_, ⟨.str ⟨#[c]⟩ s.toks, u2, ?_⟩, ?_, ?_⟩, fun d hcm => ?_⟩
    · exact (sb.2 _ D.TIz).trans (hk _ _ D.TIz D.TITO D.TIi1 D.TIi2 hTI)
    · exact (sb.2 _ D.TOz).trans TO'
    · obtain ⟨o1, e1, r1⟩ := h1'
      exact ⟨o1, (sb.2 _ D.i1z).trans e1, r1⟩
    · exact h2'.at fun o q => (sb.2 _ D.i2z).trans q
    · have hlt : d < s.heap.objs.size := by
        rcases (show d = z ∨ d = TI ∨ d = TO ∨ d = i1 ∨ d = i2 by simpa using hcm) with rfl | rfl | rfl | rfl | rfl
        · exact hzl
        · exact Heap.lt_size hTI
        · exact Heap.lt_size hTO
        · obtain ⟨_, e1, _⟩ := h1; exact Heap.lt_size e1
        · obtain ⟨_, e2, _⟩ := h2; exact Heap.lt_size e2
      rw [upd_ne (Nat.ne_of_lt hlt)]
      exact (hf d hcm).1
  done := by
    intro X hP hw hK hc i pins s σ H E I hf st hg
    subst hP hw hK
    obtain ⟨hz, hTI, ⟨x0, y0, hTO⟩, h1, h2⟩ := st
    obtain ⟨ys, hqy, hend⟩ := hg
    obtain ⟨its2, rv2, p2l, _⟩ := I.list hqy
    have p2 := p2l.isList
    have l2 := rv2.length
    have he : tx.cps[i]? = none ∨ its2.toArray[i]? = none := by
      rcases hend with q | q
      · exact .inl (Array.getElem?_eq_none q)
      · exact .inr (by simp; omega)
    exact RZ.pyNext_zipSl_end (I.ok.hd hc) D hz hTI hTO h1 h2 p2 he fun h' tk hk => ⟨rfl, I.turnedL (t' := tk) (ch := [z, TI, TO, i1, i2]) (fun c o hb q =>
      hk c o (fun q' => hb (by simp [q'])) (fun q' => hb (by simp [q'])) (fun q' => hb (by simp [q'])) (fun q' => hb (by simp [q'])) q) hf⟩
  self := fun A i s Q E st h => wpAny_pyIter_zip st.1 h
def iZipSl (K : PySem.W.Frag) (ta : TA) : TI := fun σ H R => ta σ H fun vs H1 => ∃ (z : Str) (b : Addr) (ys : List V), vs = [.str z, .ref b] ∧ z.cps.all (· < 128) = true ∧ SqL K H1 b ys ∧ R (ItzsL K z b) H1
theorem pi_zipSl {X : Cx} {e e2 : Expr} {ta : TA} {p pos tpos : Pos} {elts : List Expr} {kk : Nat} (hg : Gl X "zip") (hm : X.mg "zip" = none) (ha : PA X [e, e2] ta)
    (hs : starEach [e, e2] X.env = (false, eval e X.env) :: starEach [e2] X.env := by rfl) (hpl : (backTo pos (starEach [e2] X.env)).any (·.1) = false := by rfl) :
    PI X (.Tuple elts kk tpos) (.Call (.Name "zip" p) [e, e2] [] pos) (iZipSl X.K ta) := by
  refine ⟨fun pins s σ H R I h => ?_⟩
  refine Call_ (ld_blt I hg hm PyProof.Rows.boot_zip (PyProof.Rows.callWith_type1 (thn (ha.run pos pins s σ H _ I h) fun us s1 ⟨vs, H1, I1, r1, q1⟩ => ?_) hs hpl))
  obtain ⟨z, b, ys, ex, hz, hqy, q⟩ := q1
  subst ex
  obtain ⟨u1, u2, rfl, ⟨tt, rfl⟩, rb⟩ := vals2 r1
  obtain rfl : u2 = Value.ref b := rb
  obtain ⟨its2, rv2, p2l, _⟩ := I1.list hqy
  have p2 := p2l.isList
  obtain ⟨o2, ho2, _⟩ := id p2
  have fresh5 : ∀ c, c ∈ [s1.heap.objs.size + 4, s1.heap.objs.size + 2, s1.heap.objs.size + 3, s1.heap.objs.size, s1.heap.objs.size + 1] → FpOk X pins H1 c := fun c hcm => by
    have hle : s1.heap.objs.size ≤ c := by
      simp only [List.mem_cons, List.not_mem_nil, or_false] at hcm
      omega
    exact I1.fpOk hle (I1.hok.fresh hle)
  refine RZ.call_zipSl hz (show s1.heap.IsList b its2.toArray from p2) fun h' hzp hTI hTO h1 h2 hsz hk => wpAny_pyIter_zip hzp ?_
  have I2 : Inv X pins σ H1 { s1 with heap := h' } := I1.kept (t' := s1.toks) hk
  exact ⟨s1.heap.objs.size + 4, [s1.heap.objs.size + 4, s1.heap.objs.size + 2, s1.heap.objs.size + 3, s1.heap.objs.size, s1.heap.objs.size + 1], _, _, H1, rfl, I2, turn_zipSl (PySem.W.ktu_apart s1.heap.objs.size b b (Heap.lt_size ho2) (Heap.lt_size ho2)), ⟨hzp, hTI, ⟨_, _, hTO⟩, h1, h2⟩, fresh5, q⟩
theorem walk_zipSl {K : PySem.W.Frag} {z : Str} {b : Addr} {ys : List V} {n : Nat} (hn : n = min z.cps.size ys.length) : Walk (ItzsL K z b) n (fun H => SqL K H b ys) (YPair (fun i => z.cps[i]?.map fun c => .str ⟨#[c]⟩) (fun i => ys[i]?)) := by
  subst hn
  refine ⟨fun i _ hi q => ?_, fun _ q => ⟨ys, q, by omega⟩, fun i H v H' _ q y => ?_⟩
  · have h1 : i < z.cps.size := by omega
    have h2 : i < ys.length := by omega
    exact ⟨ys, z.cps[i], ys[i], q, by simp [h1], by simp [h2]⟩
  · obtain ⟨T, c, y, h1, h2, h3, h4, h5⟩ := y
    exact ⟨T, .str ⟨#[c]⟩, y, h1, h2, h3, by simp [h4], h5 ys q⟩
end ZS
set_option Elab.async false
set_option linter.all false
set_option maxRecDepth 100000
set_option maxHeartbeats 0
/-! items read; the law's words -/
namespace K50
open PySem PySem.Spec PyProof.Rows L2 EX2 TX
theorem comma_tl : TL.tl commaS = [44] := by decide +kernel
theorem comma_k : commaS.cps.all (· < 256) = true := by decide +kernel
theorem kS_sgn : ∀ z ∈ kS, (44 ∉ TL.tl z ∧ 32 ∉ TL.tl z ∧ 10 ∉ TL.tl z) ∧ z ≠ dashS := by decide +kernel
theorem nS_sgn : ∀ i ∈ List.range 41, (44 ∉ TL.tl (nS i) ∧ 32 ∉ TL.tl (nS i) ∧ 10 ∉ TL.tl (nS i)) ∧ nS i ≠ dashS := by decide +kernel
theorem part_sgn {e : PyData} (h : PartP e) : (44 ∉ TL.tl (wPart e) ∧ 32 ∉ TL.tl (wPart e) ∧ 10 ∉ TL.tl (wPart e)) ∧ wPart e ≠ dashS := by
  rcases h with ⟨z, hz, rfl⟩ | ⟨i, hi, rfl⟩
  · exact kS_sgn z hz
  · exact nS_sgn i (List.mem_range.mpr hi)
theorem parts_split {ds : List PyData} (h0 : ds ≠ []) (hp : ∀ e ∈ ds, PartP e) : Txt.split (wordOf (.tuple ds)) commaS = ds.map wPart := by
  rw [dash0 h0]
  exact split_join comma_tl comma_k (fun e => h0 (List.map_eq_nil_iff.mp e)) fun p hq => by
    obtain ⟨e, he, rfl⟩ := List.mem_map.mp hq
    exact (part_sgn (hp e he)).1.1
theorem parts_dash {ds : List PyData} (h0 : ds ≠ []) (hp : ∀ e ∈ ds, PartP e) : wordOf (.tuple ds) ≠ dashS := fun e => by
  have h := parts_split h0 hp
  rw [e, show Txt.split dashS commaS = [dashS] from by decide +kernel] at h
  cases ds with
  | nil => exact h0 rfl
  | cons d ds =>
    simp only [List.map_cons, List.cons.injEq] at h
    exact (part_sgn (hp d List.mem_cons_self)).2 h.1.symm
theorem it_len {n c : Nat} {d : PyData} (hn : n ≤ 40) (h : It n c d) : (wordOf d).length ≤ 100 := by
  rcases it_parts hn h with ⟨z, rfl, hz⟩ | ⟨i, hi, rfl⟩ | ⟨ds, rfl, hl, hp⟩
  · exact Nat.le_trans hz (by decide)
  · exact Nat.le_trans (num_ok i (List.mem_range.mpr hi)).1.1.2 (by decide)
  · by_cases h0 : ds = []
    · subst h0
      decide +kernel
    · rw [dash0 h0, TL.join_eq]
      refine Nat.le_trans (StrLaws.join_length_le _ _) ?_
      have hs : ((ds.map wPart).map (·.length)).sum ≤ 60 := by
        match ds, hl, hp with
        | [], _, _ => simp
        | [e], _, hp => have := wPart_len (hp e (by simp)); simp; omega
        | [e, e'], _, hp => have := wPart_len (hp e (by simp)); have := wPart_len (hp e' (by simp)); simp; omega
      rw [List.length_map]
      have : ds.length * commaS.length ≤ 2 * commaS.length := Nat.mul_le_mul_right _ hl
      have hc : commaS.length = 1 := by decide +kernel
      omega
def spItemOf : Sp := fun vs H Q _ => ∃ (d : PyData) (n c : Nat), vs = [.str ⟨#[c]⟩, .str (wordOf d)] ∧ n ≤ 40 ∧ It n c d ∧ ∀ H' v, Evl.Ex H H' → Dq H' v d → Q v H'
theorem ints_dq {H : Hp} : ∀ is : List Nat, DqAll H (is.map fun (i : Nat) => V.int (i : Int)) (is.map iD)
  | [] => .nil
  | i :: is => .cons (.int i) (ints_dq is)
section
variable {P : Program} {w : World} {K : PySem.W.Frag} {mg : Str → Option Value} {base : Heap} {f : Addr} {fd : FuncData}
abbrev s_law_item : Stmt := top 56
abbrev n_law_item : List Str := ["_law_item_here", "_law_part"]
theorem sc_law_item : FnScope n_law_item ["_law_item_here"] (defScope s_law_item) := ⟨rfl, rfl, rfl, by decide +kernel, rfl, by decide +kernel, by decide +kernel⟩
theorem ok_law_item (F : FnP K "_law_item" s_law_item f fd) (D : FD w K mg) : FnOk P w K mg base CX0 1 f fd ["_law_item_here"] spIt := by
  have T := D.t
  refine F.ok sc_law_item (fun vs H Q E h => ?_) (fun cdv A outer s H vs Q E hr h => ?_)
  · obtain ⟨x, d, n, c, rfl, _⟩ := h
    rfl
  · obtain ⟨x, d, n, c, rfl, hd, hn, hit, hQ⟩ := h
    refine ⟨_, PSs.nox (pss_cons (ps_if (pt_not (pt_val (pe_callB call_isi rfl T.isi boot_isi (pa_cons (pv 0) (pa_cons (pe_bltn rfl T.tup boot_tuple (v := .ty "tuple") rfl) pa_nil)))))
        (pss_one (ps_ret (pe_callTy call_str2 rfl T.str boot_str (pa_cons (pv 0) pa_nil))))
        pss_nil)
      (pss_one (ps_ret (pe_ifExp (pt_cmpR (op_neD hr.units) (pv 0) (pe_tup pa_nil) (nomark _)) (pe_join pe_str (pe_lc (own := [("_law_part", 1)]) (g := gName 1) (tt := tYes) rfl sc_law_item.nd (pi_tup (pv 0)) (blkOk_by (N := n_law_item) (sc := defScope s_law_item) (by decide +kernel)) (fun _ _ _ _ _ => (pg_name (i := 1) sc_law_item.nd rfl (Or.inl rfl))) (fun _ _ _ _ _ => pts_nil) (fun _ _ _ _ _ => (pe_callTy call_str2 rfl T.str boot_str (pa_cons (pv 1) pa_nil))))) pe_str)))), ?_⟩
    refine ⟨_, rfl, _, _, _, _, _, rfl, .ty "tuple", ty_of hd, kit_ty (kit_tupD d), _, rfl, ?_⟩
    rcases hit with hit | ⟨z0, rfl⟩
    case' inr =>
      cases hd
      exact iteT ⟨_, rfl, .inr ⟨z0, rfl, hQ _ (Evl.Ex.refl _)⟩⟩
    rcases it_parts hn hit with ⟨z, rfl, hz⟩ | ⟨i, hi, rfl⟩ | ⟨ds, rfl, hl, hp⟩
    · cases hd
      exact iteT ⟨_, rfl, .inr ⟨z, rfl, hQ _ (Evl.Ex.refl _)⟩⟩
    · cases hd
      exact iteT ⟨_, rfl, .inl ⟨_, rfl, lay_int hi, hQ _ (Evl.Ex.refl _)⟩⟩
    · obtain ⟨a, xs, rfl, ha, hall⟩ := hd.tupI
      have hxl := hall.length
      refine iteF ⟨_, rfl, Nat.zero_le _, fun p0 hp0 => ?_⟩
      have e0 := Evl.Ex.new (o := .tup []) hp0
      have hlay : PyData.canLay0 (.tuple ds) = true := lay_of _ (it_ok hit).1 (it_ok hit).2
      have hsh : SeqAt.shaped (.tuple ds) = true := by
        unfold SeqAt.shaped
        rw [hlay, decide_eq_true (Nat.le_trans (it_depth hit) (by decide))]
        rfl
      refine ⟨_, _, dp_of (Dq.ext e0 (.tup ha hall)) hlay, dp_of (.tup (xs := []) (ds := []) upd_same .nil) rfl, hsh, by decide +kernel, _, rfl, ?_⟩
      by_cases h0 : ds = []
      · subst h0
        exact ifF (by decide +kernel) (hQ _ e0)
      · refine ifT ?_ ?_
        · cases ds with
          | nil => exact absurd rfl h0
          | cons e ds => rfl
        · have ha0 := e0 _ _ ha
          refine ⟨⟨_, rfl⟩, _, rfl, a, rfl, ⟨_, SqT.of ha0⟩, fun L hL => ?_⟩
          refine lc_map (walk_tup (K := K) (a := a) (xs := xs)) hL (fun H' e => SqT.of (e _ _ ha0)) (fun j => .str (wPart (ds.getD j .none))) (by omega) (fun j H3 x H4 _ _ y => by rw [y.1]; exact Evl.Ex.refl _) ?_ ?_
          · rintro j x H3 H4 hj e3 _ ⟨rfl, hx⟩ Qt hQt
            obtain ⟨e, he, hq⟩ := hall.get hx
            have eg : ds.getD j .none = e := by rw [List.getD_eq_getElem?_getD, he]; rfl
            rw [eg] at hQt
            exact ⟨rfl, _, rfl, part_str (hp e (List.mem_of_getElem? he)) (hq.ext (e0.trans e3)) (hQt _ (Evl.Ex.refl _))⟩
          intro H3 e3 hL3
          rw [hxl, range_map_get ds (fun e => V.str (wPart e)) _ (fun i e he => by rw [List.getD_eq_getElem?_getD, he]; rfl)] at hL3
          refine ⟨commaS, L, ds.map wPart, rfl, rfl, .inl (SqL.of (by rw [hL3, List.map_map]; rfl)), ?_, ?_⟩
          · have hs : ((ds.map wPart).map (·.length)).sum ≤ 60 := by
              match ds, hl, hp with
              | [], _, _ => simp
              | [e], _, hp => have := wPart_len (hp e (by simp)); simp; omega
              | [e, e'], _, hp => have := wPart_len (hp e (by simp)); have := wPart_len (hp e' (by simp)); simp; omega
            rw [List.length_map]
            have : ds.length * commaS.length ≤ 2 * commaS.length := Nat.mul_le_mul_right _ hl
            have hc : commaS.length = 1 := by decide +kernel
            omega
          · rw [← dash0 h0]
            exact hQ _ (e0.trans e3)
abbrev sitem_of : Stmt := top 41
abbrev nitem_of : List Str := ["sign", "word", "part"]
theorem scitem_of : FnScope nitem_of ["sign", "word"] (defScope sitem_of) := ⟨rfl, rfl, rfl, by decide +kernel, rfl, by decide +kernel, by decide +kernel⟩
theorem okitem_of (F : FnP K "item_of" sitem_of f fd) (D : FD w K mg) : FnOk P w K mg base CX0 2 f fd ["sign", "word"] spItemOf := by
  have T := D.t
  obtain ⟨fnumber_of, fdnumber_of, gnumber_of, Fnumber_of⟩ := D.number_of
  have Gnumber_of := oknumber_of (P := P) (base := base) Fnumber_of D
  have bnumber_of : Binds K fdnumber_of ["word"] [] := Fnumber_of.bindsN fun _ _ _ _ _ _ us hl => match us, hl with | [_], _ => rfl
  refine F.ok scitem_of (fun vs H Q E h => ?_) (fun cdv A outer s H vs Q E hr h => ?_)
  · obtain ⟨d, n, c, rfl, _⟩ := h
    rfl
  · obtain ⟨d, n, c, rfl, hn, hit, hQ⟩ := h
    refine ⟨_, PSs.nox (pss_cons (ps_if (pt_cmpR op_in_seq (pv 0) (pe_tup (pa_cons pe_str (pa_cons pe_str (pa_cons pe_str pa_nil)))) (by rfl))
        (pss_one (ps_ret (pe_call Gnumber_of (hr.mono (by decide)) rfl gnumber_of Fnumber_of.kp bnumber_of .nil pass0 (pa_cons (pv 1) pa_nil))))
        pss_nil)
      (pss_cons (ps_if (pt_cmpR op_eq (pv 0) pe_str (nomark _))
        (pss_one (ps_ret (pe_ifExp (pt_cmpR op_eq (pv 1) pe_str (nomark _)) (pe_tup pa_nil) (pe_callTy call_tuple_of rfl T.tup boot_tuple (pa_cons (pe_split (pv 1) pe_str) pa_nil)))))
        pss_nil)
      (pss_cons (ps_if (pt_cmpR op_eq (pv 0) pe_str (nomark _))
        (pss_one (ps_ret (pe_ifExp (pt_cmpR op_eq (pv 1) pe_str (nomark _)) (pe_tup pa_nil) (pe_callTy call_tuple_of rfl T.tup boot_tuple (pa_cons (pe_lc (own := [("part", 2)]) (g := gName 2) (tt := tYes) rfl scitem_of.nd (pi_list (pe_split (pv 1) pe_str)) (blkOk_by (N := nitem_of) (sc := defScope sitem_of) (by decide +kernel)) (fun _ _ _ _ _ => (pg_name (i := 2) scitem_of.nd rfl (Or.inl rfl))) (fun _ _ _ _ _ => pts_nil) (fun _ _ _ _ _ => (pe_call Gnumber_of (hr.mono (by decide)) rfl gnumber_of Fnumber_of.kp bnumber_of .nil pass0 (pa_cons (pv 2) pa_nil)))) pa_nil)))))
        pss_nil)
      (pss_one (ps_ret (pv 1)))))), ?_⟩
    have num : ∀ (i : Nat), i < 41 → ∀ (k : Nat), (k = 114 ∨ k = 110 ∨ k = 106) → inV (.str ⟨#[k]⟩) [.str "r", .str "n", .str "j"] = true := by
      rintro i _ k (rfl | rfl | rfl) <;> decide +kernel
    refine ⟨_, rfl, le_line (by simp), fun t1 h1 => ⟨t1, _, rfl, .inr (SqT.of upd_same), rfl, rfl, _, rfl, ?_⟩⟩
    show (if inV (.str ⟨#[c]⟩) [.str "r", .str "n", .str "j"] = true then _ else _)
    have e1 := Evl.Ex.new (o := .tup [.str "r", .str "n", .str "j"]) h1
    cases hit with
    | r i h => exact ifT (by decide +kernel) ⟨_, rfl, i, rfl, by omega, fun H' e => hQ H' _ (e1.trans e) (.int _)⟩
    | n i h => exact ifT (by decide +kernel) ⟨_, rfl, i, rfl, by omega, fun H' e => hQ H' _ (e1.trans e) (.int _)⟩
    | j i h => exact ifT (by decide +kernel) ⟨_, rfl, i, rfl, by omega, fun H' e => hQ H' _ (e1.trans e) (.int _)⟩
    | c z h => exact ifF (by decide +kernel) ⟨_, rfl, rfl, _, rfl, ifF (by decide +kernel) ⟨_, rfl, rfl, _, rfl, ifF (by decide +kernel) ⟨_, rfl, hQ _ _ e1 (.str z)⟩⟩⟩
    | f z h => exact ifF (by decide +kernel) ⟨_, rfl, rfl, _, rfl, ifF (by decide +kernel) ⟨_, rfl, rfl, _, rfl, ifF (by decide +kernel) ⟨_, rfl, hQ _ _ e1 (.str z)⟩⟩⟩
    | t z h => exact ifF (by decide +kernel) ⟨_, rfl, rfl, _, rfl, ifF (by decide +kernel) ⟨_, rfl, rfl, _, rfl, ifF (by decide +kernel) ⟨_, rfl, hQ _ _ e1 (.str z)⟩⟩⟩
    | y zs l h =>
      refine ifF (by decide +kernel) ⟨_, rfl, rfl, _, rfl, ifT (by decide +kernel) ⟨_, rfl, rfl, _, rfl, ?_⟩⟩
      by_cases h0 : zs = []
      · subst h0
        exact ifT (by decide +kernel) ⟨Nat.zero_le _, fun t ht => hQ _ _ (e1.trans (Evl.Ex.new ht)) (.tup upd_same .nil)⟩
      · have hp : ∀ e ∈ zs.map PyData.str, PartP e := fun e he => by obtain ⟨z, hz, rfl⟩ := List.mem_map.mp he; exact .inl ⟨z, h z hz, rfl⟩
        have h0' : zs.map PyData.str ≠ [] := fun e => h0 (List.map_eq_nil_iff.mp e)
        refine ifF (decide_eq_false fun e => parts_dash h0' hp (V.str.inj e)) ?_
        have hsp : Txt.split (wordOf (.tuple (zs.map .str))) commaS = zs := by
          rw [parts_split h0' hp, List.map_map]
          exact (List.map_congr_left fun _ _ => rfl).trans (List.map_id zs)
        have hle : (wordOf (.tuple (zs.map .str))).length + 2 ≤ sizeLine := le_line (by have := it_len hn (.y zs l h); omega)
        refine ⟨_, rfl, ⟨_, rfl⟩, _, commaS, rfl, rfl, by decide +kernel, hle, fun q hq => ⟨q, _, rfl, .inl ⟨SqL.of upd_same, fun t ht => ?_⟩⟩⟩
        refine hQ _ _ ((e1.trans (Evl.Ex.new hq)).trans (Evl.Ex.new ht)) (.tup upd_same ?_)
        rw [hsp]
        exact strs_dq zs
    | x is l h =>
      refine ifF (by decide +kernel) ⟨_, rfl, rfl, _, rfl, ifF (by decide +kernel) ⟨_, rfl, rfl, _, rfl, ifT (by decide +kernel) ⟨_, rfl, rfl, _, rfl, ?_⟩⟩⟩
      by_cases h0 : is = []
      · subst h0
        exact ifT (by decide +kernel) ⟨Nat.zero_le _, fun t ht => hQ _ _ (e1.trans (Evl.Ex.new ht)) (.tup upd_same .nil)⟩
      · have hp : ∀ e ∈ is.map iD, PartP e := fun e he => by obtain ⟨z, hz, rfl⟩ := List.mem_map.mp he; exact .inr ⟨z, by have := h z hz; omega, rfl⟩
        have h0' : is.map iD ≠ [] := fun e => h0 (List.map_eq_nil_iff.mp e)
        refine ifF (decide_eq_false fun e => parts_dash h0' hp (V.str.inj e)) ?_
        have hsp : Txt.split (wordOf (.tuple (is.map iD))) commaS = is.map nS := by
          rw [parts_split h0' hp, List.map_map]
          exact List.map_congr_left fun _ _ => rfl
        have hle : (wordOf (.tuple (is.map iD))).length + 2 ≤ sizeLine := le_line (by have := it_len hn (.x is l h); omega)
        refine ⟨_, rfl, ⟨_, rfl⟩, _, commaS, rfl, rfl, by decide +kernel, hle, fun q hq => ⟨q, rfl, ⟨_, SqL.of upd_same⟩, fun L hL => ?_⟩⟩
        have e2 := Evl.Ex.new (o := .lst ((Txt.split (wordOf (.tuple (is.map iD))) commaS).map V.str)) hq
        have hqs := upd_same (H := upd H t1 (.tup [.str "r", .str "n", .str "j"])) (a := q) (o := .lst ((Txt.split (wordOf (.tuple (is.map iD))) commaS).map V.str))
        have hl2 : ((Txt.split (wordOf (.tuple (is.map iD))) commaS).map V.str).length = is.length := by rw [hsp]; simp
        refine lc_map (walk_list (K := K) (a := q) (xs := (Txt.split (wordOf (.tuple (is.map iD))) commaS).map V.str)) hL (fun H' e => SqL.of (e _ _ hqs)) (fun j => .int ((is.getD j 0 : Nat) : Int)) (by omega) (fun j H3 x H4 _ _ y => by rw [y.1]; exact Evl.Ex.refl _) ?_ ?_
        · rintro j x H3 H4 hj e3 _ ⟨rfl, hx⟩ Qt hQt
          rw [hsp, List.map_map, List.getElem?_map] at hx
          cases hz : is[j]? with
          | none => rw [hz] at hx; cases hx
          | some i =>
            rw [hz] at hx
            obtain rfl : V.str (nS i) = x := Option.some.inj hx
            have eg : is.getD j 0 = i := by rw [List.getD_eq_getElem?_getD, hz]; rfl
            rw [eg] at hQt
            exact ⟨rfl, _, rfl, i, rfl, (by have := h i (List.mem_of_getElem? hz); omega), hQt⟩
        intro H3 e3 hL3
        rw [hl2, range_map_get is (fun (i : Nat) => V.int (i : Int)) _ (fun j i hi => by rw [List.getD_eq_getElem?_getD, hi]; rfl)] at hL3
        refine ⟨L, _, rfl, .inl ⟨SqL.of hL3, fun t ht => ?_⟩⟩
        refine hQ _ _ (((e1.trans e2).trans e3).trans (Evl.Ex.new ht)) (.tup upd_same ?_)
        exact ints_dq is
end
end K50

set_option Elab.async false
set_option linter.all false
set_option maxRecDepth 100000
set_option maxHeartbeats 0
/-! instructions read -/
namespace K50
open PySem PySem.Spec PyProof.Rows L2 EX2 TX StX
theorem FD.is_instruction {w : World} {K : PySem.W.Frag} {mg : Str → Option Value} (D : FD w K mg) : ∃ f fd, mg "is_instruction" = some (.ref f) ∧ FnP K "is_instruction" sis_instruction f fd := D.cd.dd.d.is_instruction
def wordsI (z : Str) (ds : List PyData) : List Str := z :: ds.map wordOf
def spInst : Sp := fun vs H Q _ => ∃ (l : Addr) (n : Nat) (z fm : Str) (ds : List PyData), vs = [.ref l] ∧ H l = some (.lst ((wordsI z ds).map V.str)) ∧ n ≤ 40 ∧ InP n z fm ds ∧ ∀ H' v, Evl.Ex H H' → Dq H' v (.tuple (.str z :: ds)) → Q v H'
section
variable {P : Program} {w : World} {K : PySem.W.Frag} {mg : Str → Option Value} {base : Heap} {f : Addr} {fd : FuncData}
theorem okis_instruction (F : FnP K "is_instruction" sis_instruction f fd) (D : FD w K mg) : FnOk P w K mg base CX0 4 f fd ["value"] (spD insD) := ok_ins F D.cd.dd.d
abbrev sinstruction_of : Stmt := top 42
abbrev ninstruction_of : List Str := ["words", "found", "sign", "word"]
theorem scinstruction_of : FnScope ninstruction_of ["words"] (defScope sinstruction_of) := ⟨rfl, rfl, rfl, by decide +kernel, rfl, by decide +kernel, by decide +kernel⟩
theorem okinstruction_of (F : FnP K "instruction_of" sinstruction_of f fd) (D : FD w K mg) : FnOk P w K mg base CX0 5 f fd ["words"] spInst := by
  have T := D.t
  obtain ⟨es, nk, kd⟩ := D.cd.dd.d.kd
  obtain ⟨fitem_of, fditem_of, gitem_of, Fitem_of⟩ := D.item_of
  have Gitem_of := okitem_of (P := P) (base := base) Fitem_of D
  have bitem_of : Binds K fditem_of ["sign", "word"] [] := Fitem_of.bindsN fun _ _ _ _ _ _ us hl => match us, hl with | [_, _], _ => rfl
  obtain ⟨fis_instruction, fdis_instruction, gis_instruction, Fis_instruction⟩ := D.is_instruction
  have Gis_instruction := okis_instruction (P := P) (base := base) Fis_instruction D
  have bis_instruction : Binds K fdis_instruction ["value"] [] := Fis_instruction.bindsN fun _ _ _ _ _ _ us hl => match us, hl with | [_], _ => rfl
  refine F.ok scinstruction_of (fun vs H Q E h => ?_) (fun cdv A outer s H vs Q E hr h => ?_)
  · obtain ⟨l, n, z, fm, ds, rfl, _⟩ := h
    rfl
  · obtain ⟨l, n, z, fm, ds, rfl, hl, hn, hp, hQ⟩ := h
    refine ⟨_, PSs.nox (pss_cons (ps_if (PW.pt (pw_or (pt_cmpR (op_notIn_kd kd) (pe_ix ix_list (pv 0) pe_int (fun _ _ => rfl)) (pe_glob rfl D.cd.dd.d.forms (v := .ref (He.ga K "FORMS")) rfl) (by rfl)) (pw_or1 (pt_cmpR op_ne (pe_callB call_len rfl T.len boot_len (pa_cons (pv 0) pa_nil)) (pe_op op_add (pe_callB call_len rfl T.len boot_len (pa_cons (EX2.pe_kd kd (pe_glob rfl D.cd.dd.d.forms (v := .ref (He.ga K "FORMS")) rfl) (pe_ix ix_list (pv 0) pe_int (fun _ _ => rfl)) (fun _ _ => rfl)) pa_nil)) pe_int) (nomark _)))))
        (pss_one (ps_ret pe_non))
        pss_nil)
      (pss_cons (ps_set (i := 1) scinstruction_of.nd rfl (Or.inl rfl) (pe_tup (pa_cons (pe_ix ix_list (pv 0) pe_int (fun _ _ => rfl)) (pa_star (pe_lc (own := [("sign", 2), ("word", 3)]) (g := gTup K 2 (gCons (gName 2) (gCons (gName 3) gNil))) (tt := tYes) rfl scinstruction_of.nd (ZS.pi_zipSl  rfl T.zip (pa_cons (EX2.pe_kd kd (pe_glob rfl D.cd.dd.d.forms (v := .ref (He.ga K "FORMS")) rfl) (pe_ix ix_list (pv 0) pe_int (fun _ _ => rfl)) (fun _ _ => rfl)) (pa_cons (pe_slice sl_list (pv 0) (po_some pe_int) po_none) pa_nil))) (blkOk_by (N := ninstruction_of) (sc := defScope sinstruction_of) (by decide +kernel)) (fun _ _ _ _ _ => (pg_tup rfl (pgs_cons (pg_name (i := 2) scinstruction_of.nd rfl (Or.inl rfl)) (pgs_cons (pg_name (i := 3) scinstruction_of.nd rfl (Or.inl rfl)) pgs_nil)))) (fun _ _ _ _ _ => pts_nil) (fun _ _ _ _ _ => (pe_call Gitem_of (hr.mono (by decide)) rfl gitem_of Fitem_of.kp bitem_of .nil pass0 (pa_cons (pv 2) (pa_cons (pv 3) pa_nil))))) pa_nil))))
      (pss_one (ps_ret (pe_ifExp (pt_val (pe_call Gis_instruction (hr.mono (by decide)) rfl gis_instruction Fis_instruction.kp bis_instruction .nil pass0 (pa_cons (pv 1) pa_nil))) (pv 1) pe_non))))), ?_⟩
    have hfl := (forms_word _ hp.mem).2
    have hfa := (forms_ok _ hp.mem).2.1
    dsimp only at hfl hfa
    have hdl := hp.len
    obtain ⟨tk, hns⟩ : ∃ tk, PySem.W.nsIn K (He.ga K "FORMS") z = some (some (.str fm tk)) := by
      rcases D.cd.dd.d.look z with ⟨fm', tk, h1, h2⟩ | ⟨h1, _⟩
      · rw [hp.lk] at h1
        cases h1
        exact ⟨tk, h2⟩
      · rw [hp.lk] at h1
        cases h1
    have hl0 : L2.atI ((wordsI z ds).map V.str) 0 = some (.str z) := at0
    refine ⟨_, rfl, l, _, 0, .str z, rfl, rfl, SqL.of hl, hl0, z, _, rfl, rfl, hns, _, rfl, iteF ?_⟩
    refine ⟨_, rfl, _, _, rfl, .inl ⟨_, SqL.of hl, rfl⟩, _, rfl, l, _, 0, .str z, rfl, rfl, SqL.of hl, hl0, z, _, .str fm, rfl, rfl, hns, ⟨tk, rfl⟩, _, _, rfl, ⟨le_line (by omega), rfl⟩, _, _, rfl, rfl, rfl, _, rfl, ?_⟩
    refine ifF ?_ ?_
    · rw [decide_eq_true]
      · rfl
      · simp [wordsI, hdl]
    refine ⟨_, rfl, l, _, 0, .str z, rfl, rfl, SqL.of hl, hl0, ?_⟩
    refine ⟨_, rfl, l, _, 0, .str z, rfl, rfl, SqL.of hl, hl0, z, _, .str fm, rfl, rfl, hns, ⟨tk, rfl⟩, _, rfl, 1, rfl, l, _, rfl, SqL.of hl, fun p1 hp1 => ?_⟩
    have hcut : cutV ((wordsI z ds).map V.str) (some 1) none = (ds.map wordOf).map V.str := (cut1 (.str z) ((ds.map wordOf).map V.str)).1
    rw [hcut]
    have e1 := Evl.Ex.new (o := .lst ((ds.map wordOf).map V.str)) hp1
    have hp1s := upd_same (H := H) (a := p1) (o := .lst ((ds.map wordOf).map V.str))
    generalize upd H p1 (.lst ((ds.map wordOf).map V.str)) = H1 at e1 hp1s
    refine ⟨fm, p1, _, rfl, hfa, SqL.of hp1s, fun D hD => ?_⟩
    refine lc_rm (ZS.walk_zipSl (z := fm) (ys := (ds.map wordOf).map V.str) (n := fm.length) ?_) hD (fun H' e => SqL.of (e _ _ hp1s)) (fun i => ds.getD i .none) (by omega) ?_ ?_ ?_
    · show fm.cps.size = _
      rw [List.length_map, List.length_map, hdl]
      exact (Nat.min_self _).symm
    · rintro j H3 x H4 _ _ ⟨T, x1, y1, rfl, hT, rfl, _⟩
      exact Evl.Ex.new hT
    · rintro j x H3 H4 acc hj e3 e4 hD4 ⟨T0, x1, y1, rfl, hT, rfl, hx1, hy1⟩ Qt hQt
      obtain ⟨c, hc, rfl⟩ : ∃ c, fm.cps[j]? = some c ∧ x1 = .str ⟨#[c]⟩ := by
        have hx1 : (fm.cps[j]?.map fun c => V.str ⟨#[c]⟩) = some x1 := hx1
        cases hz : fm.cps[j]? with
        | none => rw [hz] at hx1; cases hx1
        | some c => rw [hz] at hx1; exact ⟨c, rfl, (Option.some.inj hx1).symm⟩
      obtain ⟨d, hd, hit⟩ := hp.its.get (i := j) (c := c) (by rw [Array.getElem?_toList]; exact hc)
      have eg2 : ds.getD j .none = d := by rw [List.getD_eq_getElem?_getD, hd]; rfl
      have hy : y1 = .str (wordOf d) := by
        have hy1 : ((ds.map wordOf).map V.str)[j]? = some y1 := hy1
        rw [List.getElem?_map, List.getElem?_map, hd] at hy1
        exact (Option.some.inj hy1).symm
      subst hy
      rw [eg2] at hQt
      refine ⟨T0, _, rfl, SqT.of upd_same, rfl, _, _, rfl, _, _, rfl, rfl, ?_⟩
      exact ⟨rfl, _, rfl, _, rfl, d, n, c, rfl, hn, hit, fun H5 v e5 hv => hQt v H5 e5 (dq_rmL' (e5 _ _ hD4) hv (it_ok hit).2)⟩
    · intro H3 xs e3 hD3 hall
      have hds : (List.range fm.length).map (fun i => ds.getD i .none) = ds := by
        rw [← hdl]
        exact range_getD
      rw [hds] at hall
      have hall' : DqAll H3 xs ds := DqAll.ext (fun a o q => by
        have n1 := rm_ne_of q
        rw [rm_ne n1] at q
        exact q) hall
      refine ⟨D, xs, rfl, .inr (SqL.of hD3), le_line (by rw [List.append_nil]; simp [hall'.length]; omega), fun t ht => ?_⟩
      have e4 := Evl.Ex.new (o := .tup (.str z :: (xs ++ []))) ht
      have hts := upd_same (H := H3) (a := t) (o := .tup (.str z :: (xs ++ [])))
      have hdt : Dq (upd H3 t (.tup (.str z :: (xs ++ [])))) (.ref t) (.tuple (.str z :: ds)) := .tup hts (by have q := DqAll.app (hall'.ext e4) .nil; rw [List.append_nil ds] at q; exact .cons (.str z) q)
      have e14 := (e1.trans e3).trans e4
      refine ⟨_, rfl, .ref t, .tuple (.str z :: ds), rfl, hdt, hp.ok.1, fun H5 e5 => ⟨_, rfl, ?_⟩⟩
      exact ifT (hp.ins hn) ⟨_, rfl, hQ _ _ (e14.trans e5) (hdt.ext e5)⟩
end
end K50

set_option Elab.async false
set_option linter.all false
set_option maxRecDepth 100000
set_option maxHeartbeats 0
/-! class texts written -/
namespace K50
open PySem PySem.Spec PyProof.Rows L2 EX2 TX StX
theorem ex_no {H H' : Hp} {a : Addr} (e : Evl.Ex H H') (h : H' a = none) : H a = none := by
  cases z : H a with
  | none => rfl
  | some o => have := e _ _ z; rw [h] at this; cases this
def spS : Str := " "
def nlS : Str := "\n"
def joinS (ws : List Str) : Str := Txt.join spS ws
def endS : Str := "end"
def methS : Str := "method"
def classS : Str := "class"
def markS : Str := "mark"
def fieldS : Str := "field"
def headW (m : Mt) : List Str := methS :: m.name :: nS m.size :: m.result :: m.params
def insW (d : PyData) : List Str := (itemsOf d).map wordOf
def linesM (m : Mt) : List (List Str) := (headW m :: m.code.map insW) ++ [[endS]]
def linesT (T : Tx) : List (List Str) := (([classS, T.name, T.above] :: T.marks.map fun k => [markS, k]) ++ T.fields.map fun q => [fieldS, q.1, q.2]) ++ T.meths.flatMap linesM
def textT (T : Tx) : Str := Txt.join nlS ((linesT T).map joinS)
theorem joinS2 (a b : Str) : joinS [a, b] = a ++ spS ++ b := by
  unfold joinS
  rw [TL.join_eq]
  rfl
theorem str_assoc (a b c : Str) : a ++ b ++ c = a ++ (b ++ c) := TL.ext_tl (by simp [TL.tl_append])
theorem joinS3 (a b c : Str) : joinS [a, b, c] = a ++ spS ++ b ++ spS ++ c := by
  unfold joinS
  rw [TL.join_eq]
  show a ++ spS ++ (b ++ spS ++ c) = _
  rw [str_assoc (a ++ spS ++ b), str_assoc (a ++ spS) b, str_assoc b]
theorem sum_le {B : Nat} : ∀ {ws : List Str}, (∀ z ∈ ws, z.length ≤ B) → (ws.map (·.length)).sum ≤ ws.length * B
  | [], _ => by simp
  | z :: ws, h => by
    have h1 := h z List.mem_cons_self
    have h2 := sum_le (ws := ws) fun y hy => h y (List.mem_cons_of_mem _ hy)
    simp only [List.map_cons, List.sum_cons, List.length_cons, Nat.succ_mul]
    omega
theorem join_ok {sep : Str} {ws : List Str} {n B : Nat} (hn : ws.length ≤ n) (h : ∀ z ∈ ws, z.length ≤ B) (hs : sep.length = 1) (hb : n * B + n ≤ 16777216) : (ws.map (·.length)).sum + ws.length * sep.length ≤ 16777216 := by
  have h1 := sum_le h
  have h2 : ws.length * B ≤ n * B := Nat.mul_le_mul_right _ hn
  rw [hs, Nat.mul_one]
  omega
theorem join_len {sep : Str} {ws : List Str} {n B : Nat} (hn : ws.length ≤ n) (h : ∀ z ∈ ws, z.length ≤ B) (hs : sep.length = 1) : (Txt.join sep ws).length ≤ n * B + n := by
  rw [TL.join_eq]
  refine Nat.le_trans (StrLaws.join_length_le _ _) ?_
  have h1 := sum_le h
  have h2 : ws.length * B ≤ n * B := Nat.mul_le_mul_right _ hn
  rw [hs, Nat.mul_one]
  omega
theorem spS_len : spS.length = 1 := by decide +kernel
theorem nlS_len : nlS.length = 1 := by decide +kernel
theorem insW_ok {n : Nat} {d : PyData} (hn : n ≤ 40) (h : InD n d) : (insW d).length ≤ 8 ∧ ∀ z ∈ insW d, z.length ≤ 100 := by
  obtain ⟨z, fm, ds, rfl, q⟩ := h
  have hw := forms_word _ q.mem
  have h1 : z.length ≤ 8 := hw.1.1
  have h2 : fm.length ≤ 7 := hw.2.2.2
  have h3 := q.len
  refine ⟨by simp [insW, itemsOf]; omega, fun y hy => ?_⟩
  obtain ⟨e, he, rfl⟩ := List.mem_map.mp hy
  rcases List.mem_cons.mp (show e ∈ .str z :: ds from he) with rfl | he
  · exact Nat.le_trans h1 (by decide)
  · obtain ⟨c, hit⟩ := q.its.all e he
    exact it_len hn hit
theorem headW_ok {m : Mt} (h : MtP m) (hn : m.name ∈ fS) : (headW m).length ≤ 8 ∧ ∀ z ∈ headW m, z.length ≤ 100 := by
  have h1 := h.np
  refine ⟨by simp [headW]; omega, fun z hz => ?_⟩
  simp only [headW, List.mem_cons] at hz
  rcases hz with rfl | rfl | rfl | rfl | hz
  · decide +kernel
  · exact Nat.le_trans (fS_ok _ hn).2.1 (by decide)
  · rcases h.sz with e | e <;> rw [e] <;> decide +kernel
  · exact Nat.le_trans (kS_ok _ h.kr).2.1 (by decide)
  · exact Nat.le_trans (kS_ok _ (h.kp z hz)).2.1 (by decide)
def spML (CM : Addr) : Sp := fun vs H Q _ => ∃ (v : V) (m : Mt), vs = [v] ∧ MtAt CM H v m ∧ MtP m ∧ m.name ∈ fS ∧ ∀ L H', Evl.Ex H H' → H L = none → H' L = some (.lst (((linesM m).map joinS).map V.str)) → Q (.ref L) H'
/-- the getters -/
structure GetF (P : Program) (w : World) (K : PySem.W.Frag) (mg : Str → Option Value) (base : Heap) : Prop where
  m1 : GetM P w K mg base "Method" "name" "own_name"
  m2 : GetM P w K mg base "Method" "params" "own_params"
  m3 : GetM P w K mg base "Method" "result" "own_result"
  m4 : GetM P w K mg base "Method" "size" "own_size"
  m5 : GetM P w K mg base "Method" "code" "own_code"
  t1 : GetM P w K mg base "ClassText" "name" "own_name"
  t2 : GetM P w K mg base "ClassText" "above" "own_above"
  t3 : GetM P w K mg base "ClassText" "marks" "own_marks"
  t4 : GetM P w K mg base "ClassText" "fields" "own_fields"
  t5 : GetM P w K mg base "ClassText" "methods" "own_methods"
section
variable {P : Program} {w : World} {K : PySem.W.Frag} {mg : Str → Option Value} {base : Heap} {f : Addr} {fd : FuncData}
abbrev smethod_lines : Stmt := top 39
abbrev nmethod_lines : List Str := ["method", "lines", "instruction", "item"]
theorem scmethod_lines : FnScope nmethod_lines ["method"] (defScope smethod_lines) := ⟨rfl, rfl, rfl, by decide +kernel, rfl, by decide +kernel, by decide +kernel⟩
theorem okmethod_lines (F : FnP K "method_lines" smethod_lines f fd) (D : FD w K mg) (M : MethF K mg) (GF : GetF P w K mg base) : FnOk P w K mg base CX0 3 f fd ["method"] (spML (He.ga K "Method")) := by
  have T := D.t
  obtain ⟨p1, fd1, G1, b1⟩ := GF.m1
  obtain ⟨p2, fd2, G2, b2⟩ := GF.m2
  obtain ⟨p3, fd3, G3, b3⟩ := GF.m3
  obtain ⟨p4, fd4, G4, b4⟩ := GF.m4
  obtain ⟨p5, fd5, G5, b5⟩ := GF.m5
  obtain ⟨fitem_text, fditem_text, gitem_text, Fitem_text⟩ := D.item_text
  have Gitem_text := okitem_text (P := P) (base := base) Fitem_text D
  have bitem_text : Binds K fditem_text ["item"] [] := Fitem_text.bindsN fun _ _ _ _ _ _ us hl => match us, hl with | [_], _ => rfl
  refine F.ok scmethod_lines (fun vs H Q E h => ?_) (fun cdv A outer s H vs Q E hr h => ?_)
  · obtain ⟨v, m, rfl, _⟩ := h
    rfl
  · obtain ⟨v, m, rfl, hv, hm, hnm, hQ⟩ := h
    refine ⟨_, PSs.nox (pss_cons (ps_set (i := 1) scmethod_lines.nd rfl (Or.inl rfl) (pe_lst (pa_cons (pe_join pe_str (pe_lst (pa_cons pe_str (pa_cons (pe_prop (pv 0) M.cl p1 G1 (hr.mono (by decide)) b1 .nil pass0 (by rfl)) (pa_cons (pe_callTy call_str2 rfl T.str boot_str (pa_cons (pe_prop (pv 0) M.cl p4 G4 (hr.mono (by decide)) b4 .nil pass0 (by rfl)) pa_nil)) (pa_cons (pe_prop (pv 0) M.cl p3 G3 (hr.mono (by decide)) b3 .nil pass0 (by rfl)) (pa_star (pe_prop (pv 0) M.cl p2 G2 (hr.mono (by decide)) b2 .nil pass0 (by rfl)) pa_nil))))))) pa_nil)))
      (pss_cons (ps_for PassesOwn.never rfl (pi_tup (pe_prop (pv 0) M.cl p5 G5 (hr.mono (by decide)) b5 .nil pass0 (by rfl))) (pg_name (i := 2) scmethod_lines.nd rfl (Or.inl rfl))
        (pss_one (ps_expr (pe_bm PySem.F.plainAttrs_list PySem.F.slot_list_append PySem.F.type_list_append mt_append (pv 1) (pa_cons (pe_join pe_str (pe_lc (own := [("item", 3)]) (g := gName 3) (tt := tYes) rfl scmethod_lines.nd (pi_tup (pv 2)) (blkOk_by (N := nmethod_lines) (sc := defScope smethod_lines) (by decide +kernel)) (fun _ _ _ _ _ => (pg_name (i := 3) scmethod_lines.nd rfl (Or.inl rfl))) (fun _ _ _ _ _ => pts_nil) (fun _ _ _ _ _ => (pe_call Gitem_text (hr.mono (by decide)) rfl gitem_text Fitem_text.kp bitem_text .nil pass0 (pa_cons (pv 3) pa_nil))))) pa_nil)))))
      (pss_one (ps_ret (pe_lst (pa_star (pv 1) (pa_cons pe_str pa_nil))))))), ?_⟩
    obtain ⟨x, dx, p, c, rfl, hx, hp, hc⟩ := hv
    obtain ⟨pa, pxs, rfl, hpa, hpall⟩ := hp.tupI
    obtain ⟨ca, cxs, rfl, hca, hcall⟩ := hc.tupI
    have hpx := dq_strs hpall
    obtain ⟨hw1, hw2⟩ := headW_ok hm hnm
    have c1 := hm.cd.c1
    refine ⟨⟨_, rfl⟩, _, rfl, x, dx, _, rfl, hx, x, dx, _, _, rfl, hx, rfl, _, rfl, x, dx, _, rfl, hx, x, dx, _, _, rfl, hx, rfl, .inl ⟨_, rfl, ?_, ?_⟩⟩
    · exact lay_int (by rcases hm.sz with e | e <;> omega)
    subst hpx
    refine ⟨_, rfl, x, dx, _, rfl, hx, x, dx, _, _, rfl, hx, rfl, _, rfl, x, dx, _, rfl, hx, x, dx, _, _, rfl, hx, rfl, pa, _, rfl, .inl (SqT.of hpa), le_line ?_, fun b hb => ?_⟩
    · have := hm.np
      simp
      omega
    have hbL : ∀ o, Evl.Ex H (upd H b o) := fun o => Evl.Ex.new hb
    refine ⟨spS, b, headW m, rfl, rfl, .inl (SqL.of (by rw [upd_same, List.append_nil]; rfl)), join_ok hw1 hw2 spS_len (by decide), le_line (by simp), fun L hL => ?_⟩
    have e1 : ∀ o', Evl.Ex H (upd _ L o') := fun o' => (hbL _).trans (Evl.Ex.new hL)
    have hHL : H L = none := ex_no (hbL _) hL
    refine ⟨_, rfl, x, dx, _, rfl, e1 _ _ _ hx, x, dx, _, _, rfl, e1 _ _ _ hx, rfl, ca, rfl, ⟨_, SqT.of (e1 _ _ _ hca)⟩, ?_⟩
    refine for_it (walk_tup (K := K) (a := ca) (xs := cxs)) (fun j σ H' => Evl.Ex H H' ∧ H' L = some (.lst (((headW m :: (m.code.take j).map insW).map joinS).map V.str)) ∧ ∃ v, σ = [some (.ref x), some (.ref L), v, none])
      ⟨e1 _, upd_same, none, rfl⟩ (fun i σ H' _ q => SqT.of (q.1 _ _ hca)) ?_ ?_
    · rintro j y σ H2 H3 hj ⟨e2, hL2, v2, rfl⟩ ⟨rfl, hy⟩
      obtain ⟨d, hd, hdq⟩ := hcall.get hy
      have hdm := hm.cd.ci d (List.mem_of_getElem? hd)
      have hok := insW_ok (by omega) hdm
      obtain ⟨z, fm, ds, rfl, q⟩ := hdm
      obtain ⟨ta, txs, rfl, hta, htall⟩ := hdq.tupI
      have htl := htall.length
      have hq7 := q.len
      have hf7 : fm.length ≤ 7 := (forms_word _ q.mem).2.2.2
      have hta2 := e2 _ _ hta
      refine ⟨_, rfl, .inl ⟨rfl, _, SqL.of hL2⟩, ⟨_, rfl⟩, _, rfl, ta, rfl, ⟨_, SqT.of hta2⟩, fun D hD => ?_⟩
      have nLD : L ≠ D := fun e => by rw [e, hD] at hL2; cases hL2
      refine lc_map (walk_tup (K := K) (a := ta) (xs := txs)) hD (fun H' e => SqT.of (e _ _ hta2)) (fun i => .str (wordOf ((PyData.str z :: ds).getD i .none))) (by rw [htl, List.length_cons]; omega) (fun i H4 x H5 _ _ y => by rw [y.1]; exact Evl.Ex.refl _) ?_ ?_
      · rintro i u H4 H5 hi e4 _ ⟨rfl, hu⟩ Qt hQt
        obtain ⟨e, he, hue⟩ := htall.get hu
        have eg : (PyData.str z :: ds).getD i .none = e := by rw [List.getD_eq_getElem?_getD, he]; rfl
        rw [eg] at hQt
        refine ⟨rfl, _, rfl, u, e, m.code.length, ?_⟩
        cases i with
        | zero =>
          rw [List.getElem?_cons_zero] at he
          cases he
          exact ⟨0, rfl, hue.ext (e2.trans e4), by omega, .inr ⟨z, rfl⟩, hQt⟩
        | succ i =>
          rw [List.getElem?_cons_succ] at he
          obtain ⟨c, hit⟩ := q.its.all e (List.mem_of_getElem? he)
          exact ⟨c, rfl, hue.ext (e2.trans e4), by omega, .inl hit, hQt⟩
      intro H4 e4 hD4
      rw [htl, range_map_get (PyData.str z :: ds) (fun e => V.str (wordOf e)) _ (fun j e he => by rw [List.getD_eq_getElem?_getD, he]; rfl)] at hD4
      refine ⟨spS, D, insW (.tuple (.str z :: ds)), rfl, rfl, .inl (SqL.of (by rw [hD4]; unfold insW; rw [List.map_map]; rfl)), join_ok hok.1 hok.2 spS_len (by decide), L, _, _, rfl, rfl, e4 _ _ hL2, ?_, (e2.trans e4).mut hHL, ?_, _, rfl⟩
      · refine Nat.lt_of_lt_of_le ?_ (le_line (Nat.le_refl _))
        simp
        omega
      · rw [upd_same, List.take_succ, hd, List.map_append]
        simp
        rfl
    · rintro σ H2 ⟨e2, hL2, v2, rfl⟩
      have hcl := hcall.length
      rw [hcl, List.take_length] at hL2
      refine ⟨_, rfl, L, _, rfl, .inr (SqL.of hL2), le_line (by simp; omega), fun L2 hL2n => hQ L2 _ (e2.trans (Evl.Ex.new hL2n)) (ex_no e2 hL2n) ?_⟩
      rw [upd_same]
      unfold linesM
      rw [List.map_append, List.map_append]
      rfl
end
end K50

set_option Elab.async false
set_option linter.all false
set_option maxRecDepth 100000
set_option maxHeartbeats 0
/-! class texts written, twice -/
namespace K50
open PySem PySem.Spec PyProof.Rows L2 EX2 TX StX
theorem class_eq (n a : Str) : ("class " : Str) ++ n ++ (" " : Str) ++ a = joinS [classS, n, a] := by
  rw [joinS3, show ("class " : Str) = classS ++ spS from by decide +kernel]
  rfl
theorem mark_eq (k : Str) : ("mark " : Str) ++ k = joinS [markS, k] := by
  rw [joinS2, show ("mark " : Str) = markS ++ spS from by decide +kernel]
theorem field_eq (n a : Str) : ("field " : Str) ++ n ++ (" " : Str) ++ a = joinS [fieldS, n, a] := by
  rw [joinS3, show ("field " : Str) = fieldS ++ spS from by decide +kernel]
  rfl
theorem len_class : ("class " : Str).length = 6 ∧ ("mark " : Str).length = 5 ∧ ("field " : Str).length = 6 ∧ (" " : Str).length = 1 := by decide +kernel
theorem app_len (a b : Str) : (a ++ b).length = a.length + b.length := by rw [TL.len_tl, TL.len_tl a, TL.len_tl b, TL.tl_append, List.length_append]
/-- the lines ahead of the methods -/
def lines3 (T : Tx) : List (List Str) := ([classS, T.name, T.above] :: T.marks.map fun k => [markS, k]) ++ T.fields.map fun q => [fieldS, q.1, q.2]
theorem linesM_len {m : Mt} (h : MtP m) : (linesM m).length ≤ 22 := by
  have := h.cd.c1
  simp [linesM]
  omega
theorem name_ok {T : Tx} (h : TxP T) {m : Mt} (hm : m ∈ T.meths) : m.name ∈ fS := (mnU_ok _ h.ms.1).2.2 m.name (List.mem_map.mpr ⟨m, hm, rfl⟩)
theorem line_len {ws : List Str} (h : ws.length ≤ 8 ∧ ∀ z ∈ ws, z.length ≤ 100) : (joinS ws).length ≤ 1000 := Nat.le_trans (join_len h.1 h.2 spS_len) (by decide)
theorem linesM_ok {m : Mt} (h : MtP m) (hn : m.name ∈ fS) : ∀ ws ∈ linesM m, ws.length ≤ 8 ∧ ∀ z ∈ ws, z.length ≤ 100 := fun ws hw => by
  have c1 := h.cd.c1
  rcases List.mem_append.mp hw with hw | hw
  · rcases List.mem_cons.mp hw with rfl | hw
    · exact headW_ok h hn
    · obtain ⟨d, hd, rfl⟩ := List.mem_map.mp hw
      exact insW_ok (by omega) (h.cd.ci d hd)
  · rw [List.mem_singleton.mp hw]
    decide +kernel
theorem lines3_ok {T : Tx} (h : TxP T) : (lines3 T).length ≤ 5 ∧ ∀ ws ∈ lines3 T, ws.length ≤ 8 ∧ ∀ z ∈ ws, z.length ≤ 100 := by
  have m1 := mkU_ok _ h.m
  have f1 := fnU_ok _ h.f.1
  rw [List.length_map] at f1
  refine ⟨by simp [lines3]; omega, fun ws hw => ?_⟩
  rcases List.mem_append.mp hw with hw | hw
  · rcases List.mem_cons.mp hw with rfl | hw
    · refine ⟨by simp, fun z hz => ?_⟩
      simp only [List.mem_cons, List.not_mem_nil, or_false] at hz
      rcases hz with rfl | rfl | rfl
      · decide +kernel
      · exact Nat.le_trans (cnS_ok _ h.n).1.2.1 (by decide)
      · exact Nat.le_trans (nmS_ok _ h.a).2.1 (by decide)
    · obtain ⟨k, hk, rfl⟩ := List.mem_map.mp hw
      refine ⟨by simp, fun z hz => ?_⟩
      simp only [List.mem_cons, List.not_mem_nil, or_false] at hz
      rcases hz with rfl | rfl
      · decide +kernel
      · exact Nat.le_trans (cnS_ok _ (m1.2.2 _ hk)).1.2.1 (by decide)
  · obtain ⟨q, hq, rfl⟩ := List.mem_map.mp hw
    refine ⟨by simp, fun z hz => ?_⟩
    simp only [List.mem_cons, List.not_mem_nil, or_false] at hz
    rcases hz with rfl | rfl | rfl
    · decide +kernel
    · exact Nat.le_trans (fS_ok _ (f1.2.2 _ (List.mem_map.mpr ⟨q, hq, rfl⟩))).2.1 (by decide)
    · exact Nat.le_trans (kS_ok _ (h.f.2 q hq)).2.1 (by decide)
theorem flatM_len {ms : List Mt} (h : ∀ m ∈ ms, MtP m) : (ms.flatMap linesM).length ≤ ms.length * 22 := by
  induction ms with
  | nil => simp
  | cons m ms ih =>
    have h1 := linesM_len (h m List.mem_cons_self)
    have h2 := ih fun k hk => h k (List.mem_cons_of_mem _ hk)
    rw [List.flatMap_cons, List.length_append, List.length_cons, Nat.succ_mul]
    omega
theorem linesT_ok {T : Tx} (h : TxP T) : (linesT T).length ≤ 49 ∧ ∀ ws ∈ linesT T, ws.length ≤ 8 ∧ ∀ z ∈ ws, z.length ≤ 100 := by
  have h3 := lines3_ok h
  have hm := (mnU_ok _ h.ms.1).1
  rw [List.length_map] at hm
  have hf := flatM_len h.ms.2
  have e : linesT T = lines3 T ++ T.meths.flatMap linesM := rfl
  rw [e]
  refine ⟨by rw [List.length_append]; omega, fun ws hw => ?_⟩
  rcases List.mem_append.mp hw with hw | hw
  · exact h3.2 ws hw
  · obtain ⟨m, hm, hw⟩ := List.mem_flatMap.mp hw
    exact linesM_ok (h.ms.2 m hm) (name_ok h hm) ws hw
def spFmt (CT CM : Addr) : Sp := fun vs H Q _ => ∃ (v : V) (T : Tx), vs = [v] ∧ TxAt CT CM H v T ∧ TxP T ∧ ∀ H', Evl.Ex H H' → Q (.str (textT T)) H'
section
variable {P : Program} {w : World} {K : PySem.W.Frag} {mg : Str → Option Value} {base : Heap} {f : Addr} {fd : FuncData}
abbrev sformat_class : Stmt := top 40
abbrev nformat_class : List Str := ["text", "lines", "method", "mark", "name", "kind"]
theorem scformat_class : FnScope nformat_class ["text"] (defScope sformat_class) := ⟨rfl, rfl, rfl, by decide +kernel, rfl, by decide +kernel, by decide +kernel⟩
theorem okformat_class (F : FnP K "format_class" sformat_class f fd) (D : FD w K mg) (M : MethF K mg) (GF : GetF P w K mg base) (C : CtF K mg) : FnOk P w K mg base CX0 4 f fd ["text"] (spFmt (He.ga K "ClassText") (He.ga K "Method")) := by
  have T := D.t
  obtain ⟨p1, fd1, G1, b1⟩ := GF.t1
  obtain ⟨p2, fd2, G2, b2⟩ := GF.t2
  obtain ⟨p3, fd3, G3, b3⟩ := GF.t3
  obtain ⟨p4, fd4, G4, b4⟩ := GF.t4
  obtain ⟨p5, fd5, G5, b5⟩ := GF.t5
  obtain ⟨fmethod_lines, fdmethod_lines, gmethod_lines, Fmethod_lines⟩ := D.method_lines
  have Gmethod_lines := okmethod_lines (P := P) (base := base) Fmethod_lines D
  have bmethod_lines : Binds K fdmethod_lines ["method"] [] := Fmethod_lines.bindsN fun _ _ _ _ _ _ us hl => match us, hl with | [_], _ => rfl
  refine F.ok scformat_class (fun vs H Q E h => ?_) (fun cdv A outer s H vs Q E hr h => ?_)
  · obtain ⟨v, m, rfl, _⟩ := h
    rfl
  · obtain ⟨v, TT, rfl, hv, hT, hQ⟩ := h
    refine ⟨_, PSs.nox (pss_cons (ps_set (i := 1) scformat_class.nd rfl (Or.inl rfl) (pe_lst (pa_cons (pe_op op_add_str (pe_op op_add_str (pe_op op_add_str pe_str (pe_prop (pv 0) C.cl p1 G1 (hr.mono (by decide)) b1 .nil pass0 (by rfl))) pe_str) (pe_prop (pv 0) C.cl p2 G2 (hr.mono (by decide)) b2 .nil pass0 (by rfl))) pa_nil)))
      (pss_cons (ps_expr (pe_bm PySem.F.plainAttrs_list PySem.F.slot_list_extend PySem.F.type_list_extend mt_extend (pv 1) (pa_cons (pe_lc (own := [("mark", 3)]) (g := gName 3) (tt := tYes) rfl scformat_class.nd (pi_tup (pe_prop (pv 0) C.cl p3 G3 (hr.mono (by decide)) b3 .nil pass0 (by rfl))) (blkOk_by (N := nformat_class) (sc := defScope sformat_class) (by decide +kernel)) (fun _ _ _ _ _ => (pg_name (i := 3) scformat_class.nd rfl (Or.inl rfl))) (fun _ _ _ _ _ => pts_nil) (fun _ _ _ _ _ => (pe_op op_add_str pe_str (pv 3)))) pa_nil)))
      (pss_cons (ps_expr (pe_bm PySem.F.plainAttrs_list PySem.F.slot_list_extend PySem.F.type_list_extend mt_extend (pv 1) (pa_cons (pe_lc (own := [("name", 4), ("kind", 5)]) (g := gTup K 2 (gCons (gName 4) (gCons (gName 5) gNil))) (tt := tYes) rfl scformat_class.nd (pi_tup (pe_prop (pv 0) C.cl p4 G4 (hr.mono (by decide)) b4 .nil pass0 (by rfl))) (blkOk_by (N := nformat_class) (sc := defScope sformat_class) (by decide +kernel)) (fun _ _ _ _ _ => (pg_tup rfl (pgs_cons (pg_name (i := 4) scformat_class.nd rfl (Or.inl rfl)) (pgs_cons (pg_name (i := 5) scformat_class.nd rfl (Or.inl rfl)) pgs_nil)))) (fun _ _ _ _ _ => pts_nil) (fun _ _ _ _ _ => (pe_op op_add_str (pe_op op_add_str (pe_op op_add_str pe_str (pv 4)) pe_str) (pv 5)))) pa_nil)))
      (pss_cons (ps_for PassesOwn.never rfl (pi_tup (pe_prop (pv 0) C.cl p5 G5 (hr.mono (by decide)) b5 .nil pass0 (by rfl))) (pg_name (i := 2) scformat_class.nd rfl (Or.inl rfl))
        (pss_one (ps_expr (pe_bm PySem.F.plainAttrs_list PySem.F.slot_list_extend PySem.F.type_list_extend mt_extend (pv 1) (pa_cons (pe_call (Gmethod_lines M GF) (hr.mono (by decide)) rfl gmethod_lines Fmethod_lines.kp bmethod_lines .nil pass0 (pa_cons (pv 2) pa_nil)) pa_nil)))))
      (pss_one (ps_ret (pe_join pe_str (pv 1)))))))), ?_⟩
    obtain ⟨x, dx, mk, fl, me, ms, rfl, hx, hmk, hfl, hme, hms⟩ := hv
    obtain ⟨ka, kxs, rfl, hka, hkall⟩ := hmk.tupI
    obtain ⟨fa, fxs, rfl, hfa, hfall⟩ := hfl.tupI
    have hkx := dq_strs hkall
    subst hkx
    obtain ⟨l1, l2, l3, l4⟩ := len_class
    have n1 := (cnS_ok _ hT.n).1.2.1
    have a1 := (nmS_ok _ hT.a).2.1
    have m1 := mkU_ok _ hT.m
    have f1 := fnU_ok _ hT.f.1
    rw [List.length_map] at f1
    have hm2 := (mnU_ok _ hT.ms.1).1
    rw [List.length_map] at hm2
    refine ⟨_, rfl, x, dx, _, rfl, hx, x, dx, _, _, rfl, hx, rfl, _, _, rfl, rfl, le_line (by omega), _, _, rfl, rfl, le_line (by rw [app_len]; omega), _, rfl, x, dx, _, rfl, hx, x, dx, _, _, rfl, hx, rfl, _, _, rfl, rfl, le_line (by rw [app_len, app_len]; omega), le_line (by simp), fun L hL => ?_⟩
    rw [class_eq]
    have e1 := Evl.Ex.new (o := .lst [.str (joinS [classS, TT.name, TT.above])]) hL
    have hL1 := upd_same (H := H) (a := L) (o := .lst [.str (joinS [classS, TT.name, TT.above])])
    generalize upd H L (.lst [.str (joinS [classS, TT.name, TT.above])]) = H1 at e1 hL1
    -- marks
    refine ⟨_, rfl, .inl ⟨rfl, _, SqL.of hL1⟩, _, rfl, x, dx, _, rfl, e1 _ _ hx, x, dx, _, _, rfl, e1 _ _ hx, rfl, ka, rfl, ⟨_, SqT.of (e1 _ _ hka)⟩, fun D hD => ?_⟩
    refine lc_map (walk_tup (K := K) (a := ka) (xs := TT.marks.map V.str)) hD (fun H' e => SqT.of (e _ _ (e1 _ _ hka))) (fun i => .str (joinS [markS, TT.marks.getD i Str.empty])) (by rw [List.length_map]; omega) (fun i H4 x H5 _ _ y => by rw [y.1]; exact Evl.Ex.refl _) ?_ ?_
    · rintro j y H3 H4 hj e3 _ ⟨rfl, hy⟩ Qt hQt
      rw [List.getElem?_map] at hy
      cases hz : TT.marks[j]? with
      | none => rw [hz] at hy; cases hy
      | some k =>
        rw [hz] at hy
        obtain rfl : V.str k = y := Option.some.inj hy
        have eg : TT.marks.getD j Str.empty = k := by rw [List.getD_eq_getElem?_getD, hz]; rfl
        have k1 := (cnS_ok _ (m1.2.2 _ (List.mem_of_getElem? hz))).1.2.1
        rw [eg, ← mark_eq] at hQt
        exact ⟨rfl, _, rfl, _, _, rfl, rfl, le_line (by omega), hQt _ (Evl.Ex.refl _)⟩
    intro H2 e2 hD2
    rw [List.length_map, range_map_get TT.marks (fun k => V.str (joinS [markS, k])) _ (fun j e he => by rw [List.getD_eq_getElem?_getD, he]; rfl)] at hD2
    have hL2 := e2 _ _ hL1
    refine ⟨L, D, _, _, rfl, rfl, hL2, hD2, le_line (by simp; omega), ?_⟩
    have e12 : Evl.Ex H (upd H2 L (.lst ([.str (joinS [classS, TT.name, TT.above])] ++ TT.marks.map fun k => V.str (joinS [markS, k])))) := (e1.trans e2).mut hL
    have hL3 := upd_same (H := H2) (a := L) (o := .lst ([.str (joinS [classS, TT.name, TT.above])] ++ TT.marks.map fun k => V.str (joinS [markS, k])))
    generalize upd H2 L (.lst ([.str (joinS [classS, TT.name, TT.above])] ++ TT.marks.map fun k => V.str (joinS [markS, k]))) = H3 at e12 hL3
    clear hD2 hL2 e2 hL1 e1 hD
    -- fields
    refine ⟨_, rfl, .inl ⟨rfl, _, SqL.of hL3⟩, _, rfl, x, dx, _, rfl, e12 _ _ hx, x, dx, _, _, rfl, e12 _ _ hx, rfl, fa, rfl, ⟨_, SqT.of (e12 _ _ hfa)⟩, fun D hD => ?_⟩
    have hfx : fxs.length = TT.fields.length := by rw [hfall.length, List.length_map]
    refine lc_map (walk_tup (K := K) (a := fa) (xs := fxs)) hD (fun H' e => SqT.of (e _ _ (e12 _ _ hfa))) (fun i => .str (joinS [fieldS, (TT.fields.getD i (Str.empty, Str.empty)).1, (TT.fields.getD i (Str.empty, Str.empty)).2])) (by omega) (fun i H4 x H5 _ _ y => by rw [y.1]; exact Evl.Ex.refl _) ?_ ?_
    · rintro j y H4 H5 hj e3 _ ⟨rfl, hy⟩ Qt hQt
      obtain ⟨q, hq, hyq⟩ := hfall.mapGet hy
      obtain ⟨ta, vs, rfl, hta, htall⟩ := Dq.tupI (show Dq H y (.tuple [.str q.1, .str q.2]) from hyq)
      have hvs := dq_strs (zs := [q.1, q.2]) htall
      subst hvs
      have eg : TT.fields.getD j (Str.empty, Str.empty) = q := by rw [List.getD_eq_getElem?_getD, hq]; rfl
      have hqm := List.mem_of_getElem? hq
      have k1 := (fS_ok _ (f1.2.2 _ (List.mem_map.mpr ⟨q, hqm, rfl⟩))).2.1
      have k2 := (kS_ok _ (hT.f.2 q hqm)).2.1
      rw [eg, ← field_eq] at hQt
      refine ⟨ta, _, rfl, SqT.of (e3 _ _ (e12 _ _ hta)), rfl, _, _, rfl, _, _, rfl, rfl, rfl, ?_⟩
      exact ⟨_, rfl, _, _, rfl, rfl, le_line (by omega), _, _, rfl, rfl, le_line (by rw [app_len]; omega), _, rfl, _, _, rfl, rfl, le_line (by rw [app_len, app_len]; omega), hQt _ (Evl.Ex.refl _)⟩
    intro H4 e4 hD4
    rw [hfx, range_map_get TT.fields (fun q => V.str (joinS [fieldS, q.1, q.2])) _ (fun j e he => by rw [List.getD_eq_getElem?_getD, he]; rfl)] at hD4
    have hL4 := e4 _ _ hL3
    refine ⟨L, D, _, _, rfl, rfl, hL4, hD4, le_line (by simp; omega), ?_⟩
    have e5 : Evl.Ex H (upd H4 L (.lst (([.str (joinS [classS, TT.name, TT.above])] ++ TT.marks.map fun k => V.str (joinS [markS, k])) ++ TT.fields.map fun q => V.str (joinS [fieldS, q.1, q.2])))) := (e12.trans e4).mut hL
    have hL5 : (upd H4 L (.lst (([.str (joinS [classS, TT.name, TT.above])] ++ TT.marks.map fun k => V.str (joinS [markS, k])) ++ TT.fields.map fun q => V.str (joinS [fieldS, q.1, q.2])))) L = some (.lst (((lines3 TT).map joinS).map V.str)) := by
      rw [upd_same]
      simp [lines3]
      rfl
    generalize upd H4 L (.lst (([.str (joinS [classS, TT.name, TT.above])] ++ TT.marks.map fun k => V.str (joinS [markS, k])) ++ TT.fields.map fun q => V.str (joinS [fieldS, q.1, q.2]))) = H5 at e5 hL5
    clear hD4 hL4 e4 hL3 e12 hD
    -- methods
    refine ⟨_, rfl, x, dx, _, rfl, e5 _ _ hx, x, dx, _, _, rfl, e5 _ _ hx, rfl, me, rfl, ⟨_, SqT.of (e5 _ _ hme)⟩, ?_⟩
    have h3 := lines3_ok hT
    refine for_it (walk_tup (K := K) (a := me) (xs := ms)) (fun j σ H' => Evl.Ex H H' ∧ H' L = some (.lst (((lines3 TT ++ (TT.meths.take j).flatMap linesM).map joinS).map V.str)) ∧ ∃ u, σ = [some (.ref x), some (.ref L), u, none, none, none])
      ⟨e5, by simpa using hL5, none, rfl⟩ (fun i σ H' _ q => SqT.of (q.1 _ _ hme)) ?_ ?_
    · rintro j y σ H6 H7 hj ⟨e6, hL6, u, rfl⟩ ⟨rfl, hy⟩
      obtain ⟨m, hm, hym⟩ := hms.get hy
      have hmm := List.mem_of_getElem? hm
      have hmp := hT.ms.2 m hmm
      refine ⟨_, rfl, .inl ⟨rfl, _, SqL.of hL6⟩, _, rfl, y, m, rfl, hym.ext e6, hmp, name_ok hT hmm, fun B H8 e8 hB hB8 => ?_⟩
      have hfl := flatM_len (ms := TT.meths.take j) fun k hk => hT.ms.2 k (List.mem_of_mem_take hk)
      have htk : (TT.meths.take j).length ≤ 2 := by rw [List.length_take]; omega
      have hml := linesM_len hmp
      refine ⟨L, B, _, _, rfl, rfl, e8 _ _ hL6, hB8, le_line (by simp only [List.length_map, List.length_append]; omega), (e6.trans e8).mut hL, ?_, _, rfl⟩
      rw [upd_same, List.take_succ, hm, List.flatMap_append]
      simp
    · rintro σ H6 ⟨e6, hL6, u, rfl⟩
      have hml := hms.length
      rw [hml, List.take_length] at hL6
      have hok := linesT_ok hT
      refine ⟨⟨_, rfl⟩, _, rfl, nlS, L, (linesT TT).map joinS, rfl, rfl, .inl (SqL.of hL6), join_ok (n := 49) (B := 1000) (by rw [List.length_map]; exact hok.1) (fun z hz => by obtain ⟨ws, hw, rfl⟩ := List.mem_map.mp hz; exact line_len (hok.2 ws hw)) nlS_len (by decide), hQ _ e6⟩
end
end K50

set_option Elab.async false
set_option linter.all false
set_option maxRecDepth 100000
set_option maxHeartbeats 0
/-! the law's own writing -/
namespace EX2
open PySem PySem.Spec PyProof.Rows L2
theorem BlkOk.any {N : List Str} {sc sc' scope : Scope} {own : List (Str × Nat)} (h : BlkOk N sc scope own) (hf : (scope.names.all fun y => decide (y.2 ≠ .free)) = true) : BlkOk N sc' scope own :=
  ⟨h.kind, h.uniq, h.ix, fun y hy e => absurd e (of_decide_eq_true (List.all_eq_true.mp hf y hy)), h.own⟩
/-- sep.join(e), the rule by K -/
def rJoin (K : PySem.W.Frag) : V → List V → Hp → VK → Prop := fun x xs H Q => ∃ a p, ∃ ys : List Str, x = .str a ∧ xs = [.ref p] ∧ (SqL K H p (ys.map V.str) ∨ SqT K H p (ys.map V.str)) ∧ (ys.map (·.length)).sum + ys.length * a.length ≤ 16777216 ∧ Q (.str (Txt.join a ys)) H
theorem pe_joinK {X : Cx} {K : PySem.W.Frag} {o e : Expr} {to te : TE} {apos pos : Pos} (hK : X.K = K) (ho : PE X o to) (he : PE X e te) (hs : starEach [e] X.env = [(false, eval e X.env)] := by rfl) (hbase : attributeBase o "join" X.env (eval o X.env) = eval o X.env := by rfl) (hline : (apos.endLine == pos.line) = true := by rfl) :
    PE X (.Call (.Attribute o "join" apos) [e] [] pos) (tM1 (rJoin K) to te) := by
  subst hK
  exact pe_join ho he hs hbase hline
end EX2
namespace K50
open PySem PySem.Spec PyProof.Rows L2 EX2 TX StX
section
variable {P : Program} {w : World} {K : PySem.W.Frag} {mg : Str → Option Value} {base : Heap} {f : Addr} {fd : FuncData}
abbrev s_law_written : Stmt := top 57
abbrev n_law_written : List Str := ["_law_text", "_law_lines", "_law_made", "_law_mark", "_law_name", "_law_kind_here", "_law_item_here", "_law_row"]
theorem sc_law_written : FnScope n_law_written ["_law_text"] (defScope s_law_written) := ⟨rfl, rfl, rfl, by decide +kernel, rfl, by decide +kernel, by decide +kernel⟩
theorem ok_law_written (F : FnP K "_law_written" s_law_written f fd) (D : FD w K mg) (M : MethF K mg) (GF : GetF P w K mg base) (C : CtF K mg) : FnOk P w K mg base CX0 4 f fd ["_law_text"] (spFmt (He.ga K "ClassText") (He.ga K "Method")) := by
  have T := D.t
  obtain ⟨p1, fd1, G1, b1⟩ := GF.t1
  obtain ⟨p2, fd2, G2, b2⟩ := GF.t2
  obtain ⟨p3, fd3, G3, b3⟩ := GF.t3
  obtain ⟨p4, fd4, G4, b4⟩ := GF.t4
  obtain ⟨p5, fd5, G5, b5⟩ := GF.t5
  obtain ⟨p6, fd6, G6, b6⟩ := GF.m1
  obtain ⟨p7, fd7, G7, b7⟩ := GF.m2
  obtain ⟨p8, fd8, G8, b8⟩ := GF.m3
  obtain ⟨p9, fd9, G9, b9⟩ := GF.m4
  obtain ⟨p10, fd10, G10, b10⟩ := GF.m5
  obtain ⟨f_law_item, fd_law_item, g_law_item, F_law_item⟩ := D._law_item
  have G_law_item := ok_law_item (P := P) (base := base) F_law_item D
  have b_law_item : Binds K fd_law_item ["_law_item_here"] [] := F_law_item.bindsN fun _ _ _ _ _ _ us hl => match us, hl with | [_], _ => rfl
  refine F.ok sc_law_written (fun vs H Q E h => ?_) (fun cdv A outer s H vs Q E hr h => ?_)
  · obtain ⟨v, m, rfl, _⟩ := h
    rfl
  · obtain ⟨v, TT, rfl, hv, hT, hQ⟩ := h
    refine ⟨_, PSs.nox (pss_cons (ps_set (i := 1) sc_law_written.nd rfl (Or.inl rfl) (pe_op op_cat (pe_lst (pa_cons (pe_op op_add_str (pe_op op_add_str (pe_op op_add_str pe_str (pe_prop (pv 0) C.cl p1 G1 (hr.mono (by decide)) b1 .nil pass0 (by rfl))) pe_str) (pe_prop (pv 0) C.cl p2 G2 (hr.mono (by decide)) b2 .nil pass0 (by rfl))) pa_nil)) (pe_lc (own := [("_law_mark", 3)]) (g := gName 3) (tt := tYes) rfl sc_law_written.nd (pi_tup (pe_prop (pv 0) C.cl p3 G3 (hr.mono (by decide)) b3 .nil pass0 (by rfl))) (blkOk_by (N := n_law_written) (sc := defScope s_law_written) (by decide +kernel)) (fun _ _ _ _ _ => (pg_name (i := 3) sc_law_written.nd rfl (Or.inl rfl))) (fun _ _ _ _ _ => pts_nil) (fun _ _ _ _ _ => (pe_op op_add_str pe_str (pv 3))))))
      (pss_cons (ps_set (i := 1) sc_law_written.nd rfl (Or.inl rfl) (pe_op op_cat (pv 1) (pe_lc (own := [("_law_name", 4), ("_law_kind_here", 5)]) (g := gTup K 2 (gCons (gName 4) (gCons (gName 5) gNil))) (tt := tYes) rfl sc_law_written.nd (pi_tup (pe_prop (pv 0) C.cl p4 G4 (hr.mono (by decide)) b4 .nil pass0 (by rfl))) (blkOk_by (N := n_law_written) (sc := defScope s_law_written) (by decide +kernel)) (fun _ _ _ _ _ => (pg_tup rfl (pgs_cons (pg_name (i := 4) sc_law_written.nd rfl (Or.inl rfl)) (pgs_cons (pg_name (i := 5) sc_law_written.nd rfl (Or.inl rfl)) pgs_nil)))) (fun _ _ _ _ _ => pts_nil) (fun _ _ _ _ _ => (pe_op op_add_str (pe_op op_add_str (pe_op op_add_str pe_str (pv 4)) pe_str) (pv 5))))))
      (pss_cons (ps_for PassesOwn.never rfl (pi_tup (pe_prop (pv 0) C.cl p5 G5 (hr.mono (by decide)) b5 .nil pass0 (by rfl))) (pg_name (i := 2) sc_law_written.nd rfl (Or.inl rfl))
        (pss_cons (ps_expr (pe_bm PySem.F.plainAttrs_list PySem.F.slot_list_append PySem.F.type_list_append mt_append (pv 1) (pa_cons (pe_join pe_str (pe_op op_cat (pe_lst (pa_cons pe_str (pa_cons (pe_prop (pv 2) M.cl p6 G6 (hr.mono (by decide)) b6 .nil pass0 (by rfl)) (pa_cons (pe_callTy call_str2 rfl T.str boot_str (pa_cons (pe_prop (pv 2) M.cl p9 G9 (hr.mono (by decide)) b9 .nil pass0 (by rfl)) pa_nil)) (pa_cons (pe_prop (pv 2) M.cl p8 G8 (hr.mono (by decide)) b8 .nil pass0 (by rfl)) pa_nil))))) (pe_callTy call_list_of rfl T.lst boot_list (pa_cons (pe_prop (pv 2) M.cl p7 G7 (hr.mono (by decide)) b7 .nil pass0 (by rfl)) pa_nil)))) pa_nil)))
        (pss_one (ps_set (i := 1) sc_law_written.nd rfl (Or.inl rfl) (pe_op op_cat (pe_op op_cat (pv 1) (pe_lc (own := [("_law_row", 7)]) (g := gName 7) (tt := tYes) rfl sc_law_written.nd (pi_tup (pe_prop (pv 2) M.cl p10 G10 (hr.mono (by decide)) b10 .nil pass0 (by rfl))) (blkOk_by (N := n_law_written) (sc := defScope s_law_written) (by decide +kernel)) (fun _ _ _ _ _ => (pg_name (i := 7) sc_law_written.nd rfl (Or.inl rfl))) (fun _ _ _ _ _ => pts_nil) (fun _ _ _ _ _ => (pe_joinK (K := K) rfl pe_str (pe_lc (own := [("_law_item_here", 6)]) (wi := iTup K (tVar 7)) (g := gName 6) (tt := tYes) rfl sc_law_written.nd (pi_tup (pv 7)) (BlkOk.any (blkOk_by (N := n_law_written) (sc := defScope s_law_written) (by decide +kernel)) (by decide +kernel)) (fun _ _ _ _ _ => (pg_name (i := 6) sc_law_written.nd rfl (Or.inl rfl))) (fun _ _ _ _ _ => pts_nil) (fun _ _ _ _ _ => (pe_call G_law_item (hr.mono (by decide)) (by rfl) g_law_item F_law_item.kp b_law_item .nil pass0 (pa_cons (pv 6) pa_nil)))))))) (pe_lst (pa_cons pe_str pa_nil)))))))
      (pss_one (ps_ret (pe_join pe_str (pv 1))))))), ?_⟩
    obtain ⟨x, dx, mk, fl, me, ms, rfl, hx, hmk, hfl, hme, hms⟩ := hv
    obtain ⟨ka, kxs, rfl, hka, hkall⟩ := hmk.tupI
    obtain ⟨fa, fxs, rfl, hfa, hfall⟩ := hfl.tupI
    have hkx := dq_strs hkall
    subst hkx
    obtain ⟨l1, l2, l3, l4⟩ := len_class
    have n1 := (cnS_ok _ hT.n).1.2.1
    have a1 := (nmS_ok _ hT.a).2.1
    have m1 := mkU_ok _ hT.m
    have f1 := fnU_ok _ hT.f.1
    rw [List.length_map] at f1
    have hm2 := (mnU_ok _ hT.ms.1).1
    rw [List.length_map] at hm2
    refine ⟨_, rfl, x, dx, _, rfl, hx, x, dx, _, _, rfl, hx, rfl, _, _, rfl, rfl, le_line (by omega), _, _, rfl, rfl, le_line (by rw [app_len]; omega), _, rfl, x, dx, _, rfl, hx, x, dx, _, _, rfl, hx, rfl, _, _, rfl, rfl, le_line (by rw [app_len, app_len]; omega), le_line (by simp), fun L hL => ?_⟩
    rw [class_eq]
    have e1 := Evl.Ex.new (o := .lst [.str (joinS [classS, TT.name, TT.above])]) hL
    have hL1 := upd_same (H := H) (a := L) (o := .lst [.str (joinS [classS, TT.name, TT.above])])
    generalize upd H L (.lst [.str (joinS [classS, TT.name, TT.above])]) = H1 at e1 hL1
    -- marks
    refine ⟨_, rfl, x, dx, _, rfl, e1 _ _ hx, x, dx, _, _, rfl, e1 _ _ hx, rfl, ka, rfl, ⟨_, SqT.of (e1 _ _ hka)⟩, fun D hD => ?_⟩
    refine lc_map (walk_tup (K := K) (a := ka) (xs := TT.marks.map V.str)) hD (fun H' e => SqT.of (e _ _ (e1 _ _ hka))) (fun i => .str (joinS [markS, TT.marks.getD i Str.empty])) (by rw [List.length_map]; omega) (fun i H4 x H5 _ _ y => by rw [y.1]; exact Evl.Ex.refl _) ?_ ?_
    · rintro j y H3 H4 hj e3 _ ⟨rfl, hy⟩ Qt hQt
      rw [List.getElem?_map] at hy
      cases hz : TT.marks[j]? with
      | none => rw [hz] at hy; cases hy
      | some k =>
        rw [hz] at hy
        obtain rfl : V.str k = y := Option.some.inj hy
        have eg : TT.marks.getD j Str.empty = k := by rw [List.getD_eq_getElem?_getD, hz]; rfl
        have k1 := (cnS_ok _ (m1.2.2 _ (List.mem_of_getElem? hz))).1.2.1
        rw [eg, ← mark_eq] at hQt
        exact ⟨rfl, _, rfl, _, _, rfl, rfl, le_line (by omega), hQt _ (Evl.Ex.refl _)⟩
    intro H2 e2 hD2
    rw [List.length_map, range_map_get TT.marks (fun k => V.str (joinS [markS, k])) _ (fun j e he => by rw [List.getD_eq_getElem?_getD, he]; rfl)] at hD2
    refine ⟨L, D, _, _, rfl, rfl, e2 _ _ hL1, hD2, le_line (by simp; omega), fun La hLa => ?_⟩
    have e12 := (e1.trans e2).trans (Evl.Ex.new (o := .lst ([.str (joinS [classS, TT.name, TT.above])] ++ TT.marks.map fun k => V.str (joinS [markS, k]))) hLa)
    have hL3 := upd_same (H := H2) (a := La) (o := .lst ([.str (joinS [classS, TT.name, TT.above])] ++ TT.marks.map fun k => V.str (joinS [markS, k])))
    generalize upd H2 La (.lst ([.str (joinS [classS, TT.name, TT.above])] ++ TT.marks.map fun k => V.str (joinS [markS, k]))) = H3 at e12 hL3
    clear hD2 e2 hL1 e1 hD hLa
    -- fields
    refine ⟨_, rfl, _, rfl, x, dx, _, rfl, e12 _ _ hx, x, dx, _, _, rfl, e12 _ _ hx, rfl, fa, rfl, ⟨_, SqT.of (e12 _ _ hfa)⟩, fun D hD => ?_⟩
    have hfx : fxs.length = TT.fields.length := by rw [hfall.length, List.length_map]
    refine lc_map (walk_tup (K := K) (a := fa) (xs := fxs)) hD (fun H' e => SqT.of (e _ _ (e12 _ _ hfa))) (fun i => .str (joinS [fieldS, (TT.fields.getD i (Str.empty, Str.empty)).1, (TT.fields.getD i (Str.empty, Str.empty)).2])) (by omega) (fun i H4 x H5 _ _ y => by rw [y.1]; exact Evl.Ex.refl _) ?_ ?_
    · rintro j y H4 H5 hj e3 _ ⟨rfl, hy⟩ Qt hQt
      obtain ⟨q, hq, hyq⟩ := hfall.mapGet hy
      obtain ⟨ta, vs, rfl, hta, htall⟩ := Dq.tupI (show Dq H y (.tuple [.str q.1, .str q.2]) from hyq)
      have hvs := dq_strs (zs := [q.1, q.2]) htall
      subst hvs
      have eg : TT.fields.getD j (Str.empty, Str.empty) = q := by rw [List.getD_eq_getElem?_getD, hq]; rfl
      have hqm := List.mem_of_getElem? hq
      have k1 := (fS_ok _ (f1.2.2 _ (List.mem_map.mpr ⟨q, hqm, rfl⟩))).2.1
      have k2 := (kS_ok _ (hT.f.2 q hqm)).2.1
      rw [eg, ← field_eq] at hQt
      refine ⟨ta, _, rfl, SqT.of (e3 _ _ (e12 _ _ hta)), rfl, _, _, rfl, _, _, rfl, rfl, rfl, ?_⟩
      exact ⟨_, rfl, _, _, rfl, rfl, le_line (by omega), _, _, rfl, rfl, le_line (by rw [app_len]; omega), _, rfl, _, _, rfl, rfl, le_line (by rw [app_len, app_len]; omega), hQt _ (Evl.Ex.refl _)⟩
    intro H4 e4 hD4
    rw [hfx, range_map_get TT.fields (fun q => V.str (joinS [fieldS, q.1, q.2])) _ (fun j e he => by rw [List.getD_eq_getElem?_getD, he]; rfl)] at hD4
    refine ⟨La, D, _, _, rfl, rfl, e4 _ _ hL3, hD4, le_line (by simp; omega), fun Lb hLb => ?_⟩
    have e5 := (e12.trans e4).trans (Evl.Ex.new (o := .lst (([.str (joinS [classS, TT.name, TT.above])] ++ TT.marks.map fun k => V.str (joinS [markS, k])) ++ TT.fields.map fun q => V.str (joinS [fieldS, q.1, q.2]))) hLb)
    have hHLb : H Lb = none := ex_no (e12.trans e4) hLb
    have hL5 : (upd H4 Lb (.lst (([.str (joinS [classS, TT.name, TT.above])] ++ TT.marks.map fun k => V.str (joinS [markS, k])) ++ TT.fields.map fun q => V.str (joinS [fieldS, q.1, q.2])))) Lb = some (.lst (((lines3 TT).map joinS).map V.str)) := by
      rw [upd_same]
      simp [lines3]
      rfl
    generalize upd H4 Lb (.lst (([.str (joinS [classS, TT.name, TT.above])] ++ TT.marks.map fun k => V.str (joinS [markS, k])) ++ TT.fields.map fun q => V.str (joinS [fieldS, q.1, q.2]))) = H5 at e5 hL5
    clear hD4 e4 hL3 e12 hD hLb
    -- methods
    refine ⟨_, rfl, x, dx, _, rfl, e5 _ _ hx, x, dx, _, _, rfl, e5 _ _ hx, rfl, me, rfl, ⟨_, SqT.of (e5 _ _ hme)⟩, ?_⟩
    have h3 := lines3_ok hT
    refine for_it (walk_tup (K := K) (a := me) (xs := ms)) (fun j σ H' => Evl.Ex H H' ∧ ∃ Lc u, H Lc = none ∧ H' Lc = some (.lst (((lines3 TT ++ (TT.meths.take j).flatMap linesM).map joinS).map V.str)) ∧ σ = [some (.ref x), some (.ref Lc), u, none, none, none, none, none])
      ⟨e5, Lb, none, hHLb, by simpa using hL5, rfl⟩ (fun i σ H' _ q => SqT.of (q.1 _ _ hme)) ?_ ?_
    · rintro j y σ H6 H7 hj ⟨e6, Lc, u, hHLc, hL6, rfl⟩ ⟨rfl, hy⟩
      obtain ⟨m, hm, hym⟩ := hms.get hy
      have hmm := List.mem_of_getElem? hm
      have hmp := hT.ms.2 m hmm
      have hnm := name_ok hT hmm
      obtain ⟨hw1, hw2⟩ := headW_ok hmp hnm
      have c1 := hmp.cd.c1
      have hfl := flatM_len (ms := TT.meths.take j) fun k hk => hT.ms.2 k (List.mem_of_mem_take hk)
      have htk : (TT.meths.take j).length ≤ 2 := by rw [List.length_take]; omega
      have hpl : (lines3 TT ++ (TT.meths.take j).flatMap linesM).length ≤ 49 := by rw [List.length_append]; omega
      have etk : lines3 TT ++ (TT.meths.take (j + 1)).flatMap linesM = (lines3 TT ++ (TT.meths.take j).flatMap linesM) ++ linesM m := by
        rw [List.take_succ, hm, List.flatMap_append, List.append_assoc]
        simp
      rw [etk]
      generalize lines3 TT ++ (TT.meths.take j).flatMap linesM = LL at hL6 hpl
      obtain ⟨x', dx', pm, cm, rfl, hx', hpm, hcm⟩ := hym
      obtain ⟨pa, pxs, rfl, hpa, hpall⟩ := hpm.tupI
      obtain ⟨ca, cxs, rfl, hca, hcall⟩ := hcm.tupI
      have hpx := dq_strs hpall
      subst hpx
      have hx6 := e6 _ _ hx'
      refine ⟨_, rfl, .inl ⟨rfl, _, SqL.of hL6⟩, ⟨_, rfl⟩, _, rfl, x', dx', _, rfl, hx6, x', dx', _, _, rfl, hx6, rfl, _, rfl, x', dx', _, rfl, hx6, x', dx', _, _, rfl, hx6, rfl, .inl ⟨_, rfl, lay_int (by rcases hmp.sz with e | e <;> omega), ?_⟩⟩
      refine ⟨_, rfl, x', dx', _, rfl, hx6, x', dx', _, _, rfl, hx6, rfl, le_line (by simp), fun b hb => ?_⟩
      have g1 : ∀ o, Evl.Ex H7 (upd H7 b o) := fun o => Evl.Ex.new hb
      refine ⟨_, rfl, x', dx', _, rfl, g1 _ _ _ hx6, x', dx', _, _, rfl, g1 _ _ _ hx6, rfl, pa, _, rfl, .inr (SqT.of (g1 _ _ _ (e6 _ _ hpa))), fun l hl => ?_⟩
      have g2 := Evl.Ex.new (o := .lst (m.params.map V.str)) hl
      refine ⟨b, l, _, _, rfl, rfl, g2 _ _ upd_same, upd_same, le_line (by have := hmp.np; simp; omega), fun c hc => ?_⟩
      have g3 : ∀ o, Evl.Ex _ (upd _ c o) := fun o => Evl.Ex.new hc
      have g6 : ∀ o, Evl.Ex H7 (upd _ c o) := fun o => ((g1 _).trans g2).trans (g3 o)
      refine ⟨spS, c, headW m, rfl, rfl, .inl (SqL.of (by rw [upd_same]; rfl)), join_ok hw1 hw2 spS_len (by decide), Lc, _, _, rfl, rfl, g6 _ _ _ hL6, ?_, ?_⟩
      · refine Nat.lt_of_lt_of_le ?_ (le_line (Nat.le_refl _))
        rw [List.length_map, List.length_map]
        omega
      have e7 : ∀ o, Evl.Ex H (upd (upd _ c o) Lc (.lst ((((LL ++ [headW m]).map joinS)).map V.str))) := fun o => (e6.trans (g6 o)).mut hHLc
      have hmp1 : ((LL.map joinS).map V.str) ++ [V.str (Txt.join spS (headW m))] = (((LL ++ [headW m]).map joinS)).map V.str := by simp [joinS]
      rw [hmp1]
      have ccl := hcall.length
      refine ⟨_, rfl, _, rfl, x', dx', _, rfl, e7 _ _ _ hx', x', dx', _, _, rfl, e7 _ _ _ hx', rfl, ca, rfl, ⟨_, SqT.of (e7 _ _ _ hca)⟩, fun D hD => ?_⟩
      refine lc_map (walk_tup (K := K) (a := ca) (xs := cxs)) hD (fun H' e => SqT.of (e _ _ (e7 _ _ _ hca))) (fun i => .str (joinS (insW (m.code.getD i .none)))) (by omega) (fun i H4 x H5 _ _ y => by rw [y.1]; exact Evl.Ex.refl _) ?_ ?_
      · rintro i y2 H8 H9 hi e8 _ ⟨rfl, hy2⟩ Qt hQt
        obtain ⟨d, hd, hdq⟩ := hcall.get hy2
        have eg : m.code.getD i .none = d := by rw [List.getD_eq_getElem?_getD, hd]; rfl
        rw [eg] at hQt
        have hdm := hmp.cd.ci d (List.mem_of_getElem? hd)
        have hok := insW_ok (by omega) hdm
        obtain ⟨z, fm, ds, rfl, q⟩ := hdm
        obtain ⟨ta, txs, rfl, hta, htall⟩ := hdq.tupI
        have htl := htall.length
        have hq7 := q.len
        have hf7 : fm.length ≤ 7 := (forms_word _ q.mem).2.2.2
        have ee := (e7 _).trans e8
        have hta2 := ee _ _ hta
        refine ⟨rfl, ⟨_, rfl⟩, _, rfl, ta, rfl, ⟨_, SqT.of hta2⟩, fun D2 hD2 => ?_⟩
        refine lc_map (walk_tup (K := K) (a := ta) (xs := txs)) hD2 (fun H' e => SqT.of (e _ _ hta2)) (fun i => .str (wordOf ((PyData.str z :: ds).getD i .none))) (by rw [htl, List.length_cons]; omega) (fun i H4 x H5 _ _ y => by rw [y.1]; exact Evl.Ex.refl _) ?_ ?_
        · rintro i u2 H10 H11 hi e10 _ ⟨rfl, hu⟩ Qu hQu
          obtain ⟨e, he, hue⟩ := htall.get hu
          have eg : (PyData.str z :: ds).getD i .none = e := by rw [List.getD_eq_getElem?_getD, he]; rfl
          rw [eg] at hQu
          refine ⟨rfl, _, rfl, u2, e, m.code.length, ?_⟩
          cases i with
          | zero =>
            rw [List.getElem?_cons_zero] at he
            cases he
            exact ⟨0, rfl, hue.ext (ee.trans e10), by omega, .inr ⟨z, rfl⟩, hQu⟩
          | succ i =>
            rw [List.getElem?_cons_succ] at he
            obtain ⟨c, hit⟩ := q.its.all e (List.mem_of_getElem? he)
            exact ⟨c, rfl, hue.ext (ee.trans e10), by omega, .inl hit, hQu⟩
        intro H10 e10 hD10
        rw [htl, range_map_get (PyData.str z :: ds) (fun e => V.str (wordOf e)) _ (fun j e he => by rw [List.getD_eq_getElem?_getD, he]; rfl)] at hD10
        exact ⟨spS, D2, insW (.tuple (.str z :: ds)), rfl, rfl, .inl (SqL.of (by rw [hD10]; unfold insW; rw [List.map_map]; rfl)), join_ok hok.1 hok.2 spS_len (by decide), hQt _ e10⟩
      intro H8 e8 hD8
      rw [ccl, range_map_get m.code (fun d => V.str (joinS (insW d))) _ (fun j e he => by rw [List.getD_eq_getElem?_getD, he]; rfl)] at hD8
      have e78 := (e7 _).trans e8
      refine ⟨Lc, D, _, _, rfl, rfl, e8 _ _ upd_same, hD8, le_line (by simp; omega), fun L1 hL1 => ⟨le_line (by simp), fun b2 hb2 => ?_⟩⟩
      have k1 : ∀ o, Evl.Ex H8 (upd H8 L1 o) := fun o => Evl.Ex.new hL1
      have k2 := Evl.Ex.new (o := .lst [.str endS]) hb2
      refine ⟨L1, b2, _, _, rfl, rfl, k2 _ _ upd_same, upd_same, le_line (by simp; omega), fun L2 hL2 => ?_⟩
      refine ⟨((e78.trans (k1 _)).trans k2).trans (Evl.Ex.new hL2), L2, _, ex_no ((e78.trans (k1 _)).trans k2) hL2, ?_, rfl⟩
      rw [upd_same]
      simp [linesM]
      rfl
    · rintro σ H6 ⟨e6, Lc, u, hHLc, hL6, rfl⟩
      have hml := hms.length
      rw [hml, List.take_length] at hL6
      have hok := linesT_ok hT
      refine ⟨⟨_, rfl⟩, _, rfl, nlS, Lc, (linesT TT).map joinS, rfl, rfl, .inl (SqL.of hL6), join_ok (n := 49) (B := 1000) (by rw [List.length_map]; exact hok.1) (fun z hz => by obtain ⟨ws, hw, rfl⟩ := List.mem_map.mp hz; exact line_len (hok.2 ws hw)) nlS_len (by decide), hQ _ e6⟩
end
end K50

set_option Elab.async false
set_option linter.all false
set_option maxRecDepth 100000
set_option maxHeartbeats 0
/-! the reader of lines: made, its first steps -/
namespace K50
open PySem PySem.Spec PyProof.Rows L2 EX2 TX StX
abbrev RA (K : PySem.W.Frag) : Addr := He.ga K "ClassReader"
structure RdF (K : PySem.W.Frag) (mg : Str → Option Value) : Prop where
  hm : mg "ClassReader" = some (.ref (RA K))
  mkr : Mk K (RA K) (He.ma K (RA K) "__init__")
  cl : Cls K (RA K)
  n1 : NoAttr K (RA K) "lines"
  n2 : NoAttr K (RA K) "at"
  m_first_word : Meth K (RA K) "first_word" (He.ma K (RA K) "first_word")
  m_take : Meth K (RA K) "take" (He.ma K (RA K) "take")
  m_take_names : Meth K (RA K) "take_names" (He.ma K (RA K) "take_names")
  m_read_field : Meth K (RA K) "read_field" (He.ma K (RA K) "read_field")
  m_read_head : Meth K (RA K) "read_head" (He.ma K (RA K) "read_head")
  m_read_code : Meth K (RA K) "read_code" (He.ma K (RA K) "read_code")
  m_read_method : Meth K (RA K) "read_method" (He.ma K (RA K) "read_method")
  m_read_all : Meth K (RA K) "read_all" (He.ma K (RA K) "read_all")
  f___init__ : ∃ fd, FunD K "__init__" "ClassReader.__init__" (defArgs (inClass (top 43) 0)) (defBody (inClass (top 43) 0)) (defScope (inClass (top 43) 0)) [] [] (He.ma K (RA K) "__init__") fd
  f_first_word : ∃ fd, FunD K "first_word" "ClassReader.first_word" (defArgs (inClass (top 43) 2)) (defBody (inClass (top 43) 2)) (defScope (inClass (top 43) 2)) [] [] (He.ma K (RA K) "first_word") fd
  f_take : ∃ fd, FunD K "take" "ClassReader.take" (defArgs (inClass (top 43) 3)) (defBody (inClass (top 43) 3)) (defScope (inClass (top 43) 3)) [] [] (He.ma K (RA K) "take") fd
  f_take_names : ∃ fd, FunD K "take_names" "ClassReader.take_names" (defArgs (inClass (top 43) 4)) (defBody (inClass (top 43) 4)) (defScope (inClass (top 43) 4)) [] [] (He.ma K (RA K) "take_names") fd
  f_read_field : ∃ fd, FunD K "read_field" "ClassReader.read_field" (defArgs (inClass (top 43) 5)) (defBody (inClass (top 43) 5)) (defScope (inClass (top 43) 5)) [] [] (He.ma K (RA K) "read_field") fd
  f_read_head : ∃ fd, FunD K "read_head" "ClassReader.read_head" (defArgs (inClass (top 43) 6)) (defBody (inClass (top 43) 6)) (defScope (inClass (top 43) 6)) [] [] (He.ma K (RA K) "read_head") fd
  f_read_code : ∃ fd, FunD K "read_code" "ClassReader.read_code" (defArgs (inClass (top 43) 7)) (defBody (inClass (top 43) 7)) (defScope (inClass (top 43) 7)) [] [] (He.ma K (RA K) "read_code") fd
  f_read_method : ∃ fd, FunD K "read_method" "ClassReader.read_method" (defArgs (inClass (top 43) 8)) (defBody (inClass (top 43) 8)) (defScope (inClass (top 43) 8)) [] [] (He.ma K (RA K) "read_method") fd
  f_read_all : ∃ fd, FunD K "read_all" "ClassReader.read_all" (defArgs (inClass (top 43) 9)) (defBody (inClass (top 43) 9)) (defScope (inClass (top 43) 9)) [] [] (He.ma K (RA K) "read_all") fd
def rfields (l : Addr) (k : Nat) : List (Str × V) := [("lines", .ref l), ("at", .int k)]
def lineD (ws : List Str) : PyData := .list (ws.map .str)
/-- the lines, each with a word -/
structure Lns (ls : List (List Str)) : Prop where
  ne : ∀ ws ∈ ls, ws ≠ []
  few : ls.length ≤ 49
  wf : ∀ ws ∈ ls, ws.length ≤ 8
def RdAt (C dr l : Addr) (H : Hp) (r : Addr) (ls : List (List Str)) (k : Nat) : Prop := ∃ (xs : List V), H r = some (.ins C dr (rfields l k)) ∧ H l = some (.lst xs) ∧ DqAll (rm r H) xs (ls.map lineD)
abbrev Rx (r : Addr) (H H' : Hp) : Prop := Evl.Ex (rm r H) (rm r H')
theorem ex_rx {r : Addr} {H H' : Hp} (e : Evl.Ex H H') : Rx r H H' := fun a o q => by
  have n := rm_ne_of q
  rw [rm_ne n] at q ⊢
  exact e _ _ q
theorem Rx.at {r a : Addr} {H H' : Hp} {o : HO} (e : Rx r H H') (h : H a = some o) (n : a ≠ r) : H' a = some o := by
  have := e a o (by rw [rm_ne n]; exact h)
  rw [rm_ne n] at this
  exact this
theorem RdAt.ext {C dr l : Addr} {H H' : Hp} {r : Addr} {ls : List (List Str)} {k : Nat} (h : RdAt C dr l H r ls k) (e : Evl.Ex H H') : RdAt C dr l H' r ls k := by
  obtain ⟨xs, h1, h2, h3⟩ := h
  exact ⟨xs, e _ _ h1, e _ _ h2, DqAll.ext (ex_rx e) h3⟩
theorem RdAt.keep {C dr l : Addr} {H H' : Hp} {r : Addr} {ls : List (List Str)} {k m : Nat} (h : RdAt C dr l H r ls k) (e : Rx r H H') (h1 : H' r = some (.ins C dr (rfields l m))) : RdAt C dr l H' r ls m := by
  obtain ⟨xs, h0, h2, h3⟩ := h
  have n : l ≠ r := ne_of h2 h0 (fun z => nomatch z)
  exact ⟨xs, h1, e.at h2 n, DqAll.ext e h3⟩
theorem RdAt.me {C dr l : Addr} {H : Hp} {r : Addr} {ls : List (List Str)} {k : Nat} (h : RdAt C dr l H r ls k) : H r = some (.ins C dr (rfields l k)) := by
  obtain ⟨xs, h0, h2, h3⟩ := h
  exact h0
/-- the k-th line -/
theorem RdAt.line {C dr l : Addr} {H : Hp} {r : Addr} {ls : List (List Str)} {k j : Nat} {ws : List Str} (h : RdAt C dr l H r ls k) (e : ls[j]? = some ws) :
    ∃ xs lw, H r = some (.ins C dr (rfields l k)) ∧ H l = some (.lst xs) ∧ xs.length = ls.length ∧ xs[j]? = some (.ref lw) ∧ H lw = some (.lst (ws.map V.str)) ∧ lw ≠ r ∧ l ≠ r := by
  obtain ⟨xs, h1, h2, h3⟩ := h
  obtain ⟨x, hx, hd⟩ := h3.mapGetD e
  obtain ⟨lw, ys, rfl, hlw, hall⟩ := Dq.lstI (show Dq (rm r H) x (.list (ws.map .str)) from hd)
  have hy := dq_strs hall
  subst hy
  have n := rm_ne_of hlw
  rw [rm_ne n] at hlw
  exact ⟨xs, lw, h1, h2, by rw [h3.length, List.length_map], hx, hlw, n, ne_of h2 h1 (fun z => nomatch z)⟩
theorem RdAt.step {C dr l : Addr} {H : Hp} {r : Addr} {ls : List (List Str)} {k m : Nat} (h : RdAt C dr l H r ls k) : RdAt C dr l (upd H r (.ins C dr (rfields l m))) r ls m := by
  obtain ⟨xs, h1, h2, h3⟩ := h
  have n : l ≠ r := ne_of h2 h1 (fun z => nomatch z)
  exact ⟨xs, upd_same, by rw [upd_ne n]; exact h2, by rw [rm_same]; exact h3⟩
theorem rx_upd {r : Addr} {H : Hp} {o : HO} : Rx r H (upd H r o) := by rw [Rx, rm_same]; exact Evl.Ex.refl _
def firstW (ls : List (List Str)) (k : Nat) : Str := (ls[k]?.map fun ws => ws.headD Str.empty).getD Str.empty
def spFW (C : Addr) : Sp := fun vs H Q _ => ∃ (r dr l : Addr) (ls : List (List Str)) (k : Nat), vs = [.ref r] ∧ RdAt C dr l H r ls k ∧ Lns ls ∧ Q (.str (firstW ls k)) H
def spTake (C : Addr) : Sp := fun vs H Q _ => ∃ (r dr l : Addr) (ls : List (List Str)) (k : Nat) (ws : List Str), vs = [.ref r] ∧ RdAt C dr l H r ls k ∧ ls[k]? = some ws ∧ ls.length ≤ 49 ∧
  ∀ (lw : Addr) (H' : Hp), Rx r H H' → RdAt C dr l H' r ls (k + 1) → H' lw = some (.lst (ws.map V.str)) → lw ≠ r → (∀ a, a ≠ r → H a = none → H' a = none) → Q (.ref lw) H'
def spRdI (C : Addr) : Sp := fun vs H Q _ => ∃ (r dr l : Addr) (ls : List (List Str)), vs = [.ref r, .ref l] ∧ H r = some (.ins C dr []) ∧ H l = some (.lst ((ls.map joinS).map V.str)) ∧ Lns ls ∧ (∀ ws ∈ ls, (joinS ws).length ≤ 1000 ∧ ∀ z ∈ ws, 32 ∉ TL.tl z) ∧
  ∀ H', (∀ b o, b ≠ r → H b = some o → H' b = some o) → ∀ l', RdAt C dr l' H' r ls 0 → Q .non H'
theorem Dq.rmA {H : Hp} {r C dr : Addr} {fs : List (Str × V)} {xs : List V} {ds : List PyData} (hr : H r = some (.ins C dr fs)) (h : DqAll H xs ds) : DqAll (rm r H) xs ds := DqAll.fr hr (fun b o n e => by rw [rm_ne n]; exact e) h
section
variable {P : Program} {w : World} {K : PySem.W.Frag} {mg : Str → Option Value} {base : Heap} {f : Addr} {fd : FuncData}
abbrev sClassReader_first_word : Stmt := inClass (top 43) 2
abbrev nClassReader_first_word : List Str := ["self"]
theorem scClassReader_first_word : FnScope nClassReader_first_word ["self"] (defScope sClassReader_first_word) := ⟨rfl, rfl, rfl, by decide +kernel, rfl, by decide +kernel, by decide +kernel⟩
theorem okClassReader_first_word (F : FunD K "first_word" "ClassReader.first_word" (defArgs sClassReader_first_word) (defBody sClassReader_first_word) (defScope sClassReader_first_word) [] [] f fd) (D : FD w K mg) (R : RdF K mg) : FnOk P w K mg base CX0 1 f fd ["self"] (spFW (RA K)) := by
  have T := D.t
  refine F.ok scClassReader_first_word (fun vs H Q E h => ?_) (fun cdv A outer s H vs Q E hr h => ?_)
  · obtain ⟨r, dr, l, ls, k, rfl, _⟩ := h
    rfl
  · obtain ⟨r, dr, l, ls, k, rfl, hR, hls, hQ⟩ := h
    refine ⟨_, PSs.nox (pss_one (ps_ret (pe_ifExp (pt_cmpR op_lt (pe_fld (pv 0) rfl) (pe_callB call_len rfl T.len boot_len (pa_cons (pe_fld (pv 0) rfl) pa_nil)) (nomark _)) (pe_ix ix_list (pe_ix ix_list (pe_fld (pv 0) rfl) (pe_fld (pv 0) rfl) (fun _ _ => rfl)) pe_int (fun _ _ => rfl)) pe_str))), ?_⟩
    cases hk : ls[k]? with
    | none =>
      have hR' := hR
      obtain ⟨xs, h1, h2, h3⟩ := hR
      have hxl : xs.length = ls.length := by rw [h3.length, List.length_map]
      have hge := List.getElem?_eq_none_iff.mp hk
      refine ⟨_, rfl, r, _, dr, _, _, rfl, h1, R.cl, R.n2, rfl, _, rfl, r, _, dr, _, _, rfl, h1, R.cl, R.n1, rfl, _, _, rfl, .inl ⟨_, SqL.of h2, rfl⟩, _, _, rfl, rfl, _, rfl, ?_⟩
      refine ifF (decide_eq_false (by omega)) ?_
      rw [show firstW ls k = Str.empty from by unfold firstW; rw [hk]; rfl] at hQ
      exact hQ
    | some ws =>
      obtain ⟨xs, lw, h1, h2, hxl, hxk, hlw, n1, n2⟩ := hR.line hk
      have hlt := (List.getElem?_eq_some_iff.mp hk).1
      have hne := hls.ne ws (List.mem_of_getElem? hk)
      refine ⟨_, rfl, r, _, dr, _, _, rfl, h1, R.cl, R.n2, rfl, _, rfl, r, _, dr, _, _, rfl, h1, R.cl, R.n1, rfl, _, _, rfl, .inl ⟨_, SqL.of h2, rfl⟩, _, _, rfl, rfl, _, rfl, ?_⟩
      refine ifT (decide_eq_true (by omega)) ?_
      obtain ⟨w0, wr, rfl⟩ : ∃ w0 wr, ws = w0 :: wr := by
        cases ws with
        | nil => exact absurd rfl hne
        | cons a b => exact ⟨a, b, rfl⟩
      refine ⟨_, rfl, r, _, dr, _, _, rfl, h1, R.cl, R.n1, rfl, _, rfl, r, _, dr, _, _, rfl, h1, R.cl, R.n2, rfl, l, _, _, _, rfl, rfl, SqL.of h2, atI_nat hxk, lw, _, 0, .str w0, rfl, rfl, SqL.of hlw, at0, ?_⟩
      rw [show firstW ls k = w0 from by unfold firstW; rw [hk]; rfl] at hQ
      exact hQ
abbrev sClassReader_take : Stmt := inClass (top 43) 3
abbrev nClassReader_take : List Str := ["self"]
theorem scClassReader_take : FnScope nClassReader_take ["self"] (defScope sClassReader_take) := ⟨rfl, rfl, rfl, by decide +kernel, rfl, by decide +kernel, by decide +kernel⟩
theorem okClassReader_take (F : FunD K "take" "ClassReader.take" (defArgs sClassReader_take) (defBody sClassReader_take) (defScope sClassReader_take) [] [] f fd) (D : FD w K mg) (R : RdF K mg) : FnOk P w K mg base CX0 1 f fd ["self"] (spTake (RA K)) := by
  have T := D.t
  refine F.ok scClassReader_take (fun vs H Q E h => ?_) (fun cdv A outer s H vs Q E hr h => ?_)
  · obtain ⟨r, dr, l, ls, k, ws, rfl, _⟩ := h
    rfl
  · obtain ⟨r, dr, l, ls, k, ws, rfl, hR, hk, hfew, hQ⟩ := h
    refine ⟨_, PSs.nox (pss_cons (ps_if (pt_cmpR op_ge (pe_fld (pv 0) rfl) (pe_callB call_len rfl T.len boot_len (pa_cons (pe_fld (pv 0) rfl) pa_nil)) (nomark _))
        pss_no
        pss_nil)
      (pss_cons (ps_asg (pe_op op_add (pe_fld (pv 0) rfl) pe_int) (pg_fld (pv 0)))
      (pss_one (ps_ret (pe_ix ix_list (pe_fld (pv 0) rfl) (pe_op op_sub (pe_fld (pv 0) rfl) pe_int) (fun _ _ => rfl)))))), ?_⟩
    obtain ⟨xs, lw, h1, h2, hxl, hxk, hlw, n1, n2⟩ := hR.line hk
    have hlt := (List.getElem?_eq_some_iff.mp hk).1
    refine ⟨_, rfl, r, _, dr, _, _, rfl, h1, R.cl, R.n2, rfl, _, rfl, r, _, dr, _, _, rfl, h1, R.cl, R.n1, rfl, _, _, rfl, .inl ⟨_, SqL.of h2, rfl⟩, _, _, rfl, rfl, _, rfl, ?_⟩
    refine ifF (decide_eq_false (by omega)) ?_
    refine ⟨_, rfl, r, _, dr, _, _, rfl, h1, R.cl, R.n2, rfl, _, _, rfl, rfl, _, rfl, r, _, dr, _, rfl, h1, R.cl, R.n2, by simp [rfields], ?_⟩
    have hp : putF "at" (.int ((k : Int) + 1)) (rfields l k) = rfields l (k + 1) := by
      simp [putF, rfields]
      decide +kernel
    have hst := hR.step (m := k + 1)
    rw [← hp] at hst
    have ats : L2.atI xs (((k + 1 : Nat) : Int) - 1) = some (.ref lw) := by
      rw [show ((k + 1 : Nat) : Int) - 1 = (k : Int) from by omega]
      exact atI_nat hxk
    have hup := congrArg (fun fs => some (HO.ins (RA K) dr fs)) hp
    refine ⟨_, rfl, r, _, dr, rfields l (k + 1), _, rfl, upd_same.trans hup, R.cl, R.n1, rfl, _, rfl, r, _, dr, rfields l (k + 1), _, rfl, upd_same.trans hup, R.cl, R.n2, rfl, _, _, rfl, rfl, l, xs, _, _, rfl, rfl, SqL.of ((upd_ne n2).trans h2), ats, ?_⟩
    exact hQ lw _ rx_upd hst ((upd_ne n1).trans hlw) n1 (fun a ha h => (upd_ne ha).trans h)
theorem space_tl : TL.tl spS = [32] := by decide +kernel
theorem space_k : spS.cps.all (· < 256) = true := by decide +kernel
abbrev sClassReader___init__ : Stmt := inClass (top 43) 0
abbrev nClassReader___init__ : List Str := ["self", "lines", "line"]
theorem scClassReader___init__ : FnScope nClassReader___init__ ["self", "lines"] (defScope sClassReader___init__) := ⟨rfl, rfl, rfl, by decide +kernel, rfl, by decide +kernel, by decide +kernel⟩
theorem okClassReader___init__ (F : FunD K "__init__" "ClassReader.__init__" (defArgs sClassReader___init__) (defBody sClassReader___init__) (defScope sClassReader___init__) [] [] f fd) (D : FD w K mg) (R : RdF K mg) : FnOk P w K mg base CX0 1 f fd ["self", "lines"] (spRdI (RA K)) := by
  have T := D.t
  refine F.ok scClassReader___init__ (fun vs H Q E h => ?_) (fun cdv A outer s H vs Q E hr h => ?_)
  · obtain ⟨r, dr, l, ls, rfl, _⟩ := h
    rfl
  · obtain ⟨r, dr, l, ls, rfl, hr0, hl, hls, hsp, hQ⟩ := h
    refine ⟨_, PSs.nox (pss_cons (ps_asg (pe_lc (own := [("line", 2)]) (g := gName 2) (tt := tYes) rfl scClassReader___init__.nd (pi_list (pv 1)) (blkOk_by (N := nClassReader___init__) (sc := defScope sClassReader___init__) (by decide +kernel)) (fun _ _ _ _ _ => (pg_name (i := 2) scClassReader___init__.nd rfl (Or.inl rfl))) (fun _ _ _ _ _ => pts_nil) (fun _ _ _ _ _ => (pe_split (pv 2) pe_str))) (pg_fld (pv 0)))
      (pss_one (ps_asg pe_int (pg_fld (pv 0))))), ?_⟩
    refine ⟨_, rfl, l, rfl, ⟨_, SqL.of hl⟩, fun D hD => ?_⟩
    have hfew := hls.few
    refine lc_rm (walk_list (K := K) (a := l) (xs := (ls.map joinS).map V.str)) hD (fun H' e => SqL.of (e _ _ hl)) (fun j => lineD (ls.getD j [])) (by simp; omega) (fun j H2 x H3 _ _ y => by rw [y.1]; exact Evl.Ex.refl _) ?_ ?_
    · rintro j x H2 H3 acc hj e2 e3 hD3 ⟨rfl, hx⟩ Qt hQt
      rw [List.getElem?_map, List.getElem?_map] at hx
      cases hz : ls[j]? with
      | none => rw [hz] at hx; cases hx
      | some ws =>
        rw [hz] at hx
        obtain rfl : V.str (joinS ws) = x := Option.some.inj hx
        have hm := List.mem_of_getElem? hz
        have eg : ls.getD j [] = ws := by rw [List.getD_eq_getElem?_getD, hz]; rfl
        rw [eg] at hQt
        have hsplit : Txt.split (joinS ws) spS = ws := split_join space_tl space_k (hls.ne ws hm) (hsp ws hm).2
        refine ⟨rfl, _, rfl, ⟨_, rfl⟩, joinS ws, spS, rfl, rfl, by decide +kernel, ?_, fun q hq => ?_⟩
        · have := (hsp ws hm).1
          rw [sizeLine_eq]
          omega
        refine hQt _ _ (Evl.Ex.new hq) ?_
        have nq : q ≠ D := fun e => by rw [e] at hq; rw [hq] at hD3; cases hD3
        refine .lst (by rw [rm_ne nq]; exact upd_same) ?_
        rw [hsplit]
        exact strs_dq ws
    intro H1 xs e1 hD1 hall
    have hl0 : ((ls.map joinS).map V.str).length = ls.length := by simp
    rw [hl0, range_map_get ls lineD _ (fun j e he => by rw [List.getD_eq_getElem?_getD, he]; rfl)] at hall
    have hr1 := e1 _ _ hr0
    have nD : D ≠ r := ne_of hD1 hr1 (fun z => nomatch z)
    refine ⟨_, rfl, r, _, dr, [], rfl, hr1, R.cl, R.n1, by decide, ?_⟩
    refine ⟨_, rfl, r, _, dr, [("lines", .ref D)], rfl, upd_same, R.cl, R.n2, by simp, ?_⟩
    have hp : putF "at" (.int 0) [("lines", V.ref D)] = rfields D 0 := by
      simp [putF, rfields]
      decide +kernel
    have hup := congrArg (fun fs => some (HO.ins (RA K) dr fs)) hp
    refine hQ _ (fun b o hb e => (upd_ne hb).trans ((upd_ne hb).trans (e1 _ _ e))) D ⟨xs, upd_same.trans hup, (upd_ne nD).trans ((upd_ne nD).trans hD1), ?_⟩
    rw [rm_same, rm_same]
    refine Dq.rmA hr1 (DqAll.ext (fun a o q => by
      have n1 := rm_ne_of q
      rw [rm_ne n1] at q
      exact q) hall)
end
end K50

set_option Elab.async false
set_option linter.all false
set_option maxRecDepth 100000
set_option maxHeartbeats 0
/-! the reader: names, fields, heads -/
namespace K50
open PySem PySem.Spec PyProof.Rows L2 EX2 TX StX
theorem rx_none {r L : Addr} {H H' : Hp} (e : Rx r H H') (h : H' L = none) (n : L ≠ r) : H L = none := by
  cases z : H L with
  | none => rfl
  | some o => have := e.at z n; rw [h] at this; cases this
theorem RdAt.ne {C dr l : Addr} {H : Hp} {r L : Addr} {ls : List (List Str)} {k : Nat} (h : RdAt C dr l H r ls k) (hL : H L = none) : L ≠ r := fun e => by
  obtain ⟨xs, h1, _⟩ := h
  rw [e, h1] at hL
  cases hL
theorem FD.is_name {w : World} {K : PySem.W.Frag} {mg : Str → Option Value} (D : FD w K mg) : ∃ f fd, mg "is_name" = some (.ref f) ∧ FnP K "is_name" sName f fd := D.cd.dd.d.is_name
theorem FD.is_type {w : World} {K : PySem.W.Frag} {mg : Str → Option Value} (D : FD w K mg) : ∃ f fd, mg "is_type" = some (.ref f) ∧ FnP K "is_type" sType f fd := D.cd.dd.d.is_type
def spTN (C : Addr) : Sp := fun vs H Q _ => ∃ (r dr l : Addr) (ls : List (List Str)) (k : Nat) (w0 : Str) (names : List Str), vs = [.ref r, .int names.length] ∧ RdAt C dr l H r ls k ∧ ls[k]? = some (w0 :: names) ∧ Lns ls ∧ (∀ z ∈ names, z ∈ nmS) ∧
  ∀ (L : Addr) (H' : Hp), Rx r H H' → RdAt C dr l H' r ls (k + 1) → H L = none → L ≠ r → H' L = some (.lst (names.map V.str)) → Q (.ref L) H'
def spRF (C : Addr) : Sp := fun vs H Q _ => ∃ (r dr l : Addr) (ls : List (List Str)) (k : Nat) (w0 n kd : Str), vs = [.ref r] ∧ RdAt C dr l H r ls k ∧ ls[k]? = some [w0, n, kd] ∧ Lns ls ∧ n ∈ fS ∧ kd ∈ kS ∧
  ∀ (t : Addr) (H' : Hp), Rx r H H' → RdAt C dr l H' r ls (k + 1) → H t = none → t ≠ r → H' t = some (.tup [.str n, .str kd]) → Q (.ref t) H'
def spRH (C : Addr) : Sp := fun vs H Q _ => ∃ (r dr l : Addr) (ls : List (List Str)) (k : Nat) (m : Mt), vs = [.ref r] ∧ RdAt C dr l H r ls k ∧ ls[k]? = some (headW m) ∧ Lns ls ∧ MtP m ∧ m.name ∈ fS ∧
  ∀ (L : Addr) (H' : Hp), Rx r H H' → RdAt C dr l H' r ls (k + 1) → H L = none → L ≠ r → H' L = some (.lst ((m.name :: nS m.size :: m.result :: m.params).map V.str)) → Q (.ref L) H'
section
variable {P : Program} {w : World} {K : PySem.W.Frag} {mg : Str → Option Value} {base : Heap} {f : Addr} {fd : FuncData}
theorem okis_name' (F : FnP K "is_name" sName f fd) (D : FD w K mg) : FnOk P w K mg base CX0 1 f fd ["value"] (spD nameD) := okD_name D.cd.dd.d F
theorem okis_type' (F : FnP K "is_type" sType f fd) (D : FD w K mg) : FnOk P w K mg base CX0 2 f fd ["value"] (spD typeD) := okD_type D.cd.dd.d F
abbrev sClassReader_take_names : Stmt := inClass (top 43) 4
abbrev nClassReader_take_names : List Str := ["self", "many", "words", "word"]
theorem scClassReader_take_names : FnScope nClassReader_take_names ["self", "many"] (defScope sClassReader_take_names) := ⟨rfl, rfl, rfl, by decide +kernel, rfl, by decide +kernel, by decide +kernel⟩
theorem okClassReader_take_names (F : FunD K "take_names" "ClassReader.take_names" (defArgs sClassReader_take_names) (defBody sClassReader_take_names) (defScope sClassReader_take_names) [] [] f fd) (D : FD w K mg) (R : RdF K mg) : FnOk P w K mg base CX0 2 f fd ["self", "many"] (spTN (RA K)) := by
  have T := D.t
  obtain ⟨fdm_take, Fm_take⟩ := R.f_take
  have Gm_take := okClassReader_take (P := P) (base := base) (w := w) Fm_take D R
  have bm_take : Binds K fdm_take ["self"] [] := FunD.bindsN Fm_take fun _ _ _ _ _ _ us hl => match us, hl with | [_], _ => rfl
  obtain ⟨fis_name, fdis_name, gis_name, Fis_name⟩ := D.is_name
  have Gis_name := okis_name (P := P) (base := base) Fis_name D.cd
  have bis_name : Binds K fdis_name ["value"] [] := Fis_name.bindsN fun _ _ _ _ _ _ us hl => match us, hl with | [_], _ => rfl
  refine F.ok scClassReader_take_names (fun vs H Q E h => ?_) (fun cdv A outer s H vs Q E hr h => ?_)
  · obtain ⟨r, dr, l, ls, k, w0, names, rfl, _⟩ := h
    rfl
  · obtain ⟨r, dr, l, ls, k, w0, names, rfl, hR, hk, hls, hnm, hQ⟩ := h
    refine ⟨_, PSs.nox (pss_cons (ps_set (i := 2) scClassReader_take_names.nd rfl (Or.inl rfl) (pe_meth0 (pv 0) R.cl R.m_take Gm_take (hr.mono (by decide)) bm_take .nil pass0))
      (pss_cons (ps_if (PW.pt (pw_or (pt_cmpR op_ne (pe_callB call_len rfl T.len boot_len (pa_cons (pv 2) pa_nil)) (pe_op op_add (pv 1) pe_int) (nomark _)) (pw_or1 (pt_not (pt_val (pe_callB (cr_all rfl) rfl T.all boot_all (pa_cons (pe_lc (own := [("word", 3)]) (g := gName 3) (tt := tYes) rfl scClassReader_take_names.nd (pi_list (pe_slice sl_list (pv 2) (po_some pe_int) po_none)) (blkOk_by (N := nClassReader_take_names) (sc := defScope sClassReader_take_names) (by decide +kernel)) (fun _ _ _ _ _ => (pg_name (i := 3) scClassReader_take_names.nd rfl (Or.inl rfl))) (fun _ _ _ _ _ => pts_nil) (fun _ _ _ _ _ => (pe_call Gis_name (hr.mono (by decide)) rfl gis_name Fis_name.kp bis_name .nil pass0 (pa_cons (pv 3) pa_nil)))) pa_nil)))))))
        pss_no
        pss_nil)
      (pss_one (ps_ret (pe_slice sl_list (pv 2) (po_some pe_int) po_none))))), ?_⟩
    have hw8 := hls.wf _ (List.mem_of_getElem? hk)
    rw [List.length_cons] at hw8
    have hfew := hls.few
    have h1 := hR.me
    refine ⟨_, rfl, r, dr, _, rfl, h1, rfl, r, dr, l, ls, k, _, rfl, hR, hk, hls.few, fun lw H1 rx1 hR1 hlw nlw hn1 => ?_⟩
    have hcut : cutV ((w0 :: names).map V.str) (some 1) none = names.map V.str := (cut1 (.str w0) (names.map V.str)).1
    refine ⟨_, rfl, _, _, rfl, .inl ⟨_, SqL.of hlw, rfl⟩, _, rfl, _, _, rfl, rfl, rfl, _, rfl, ?_⟩
    refine ifF ?_ ?_
    · rw [decide_eq_true]
      · rfl
      · simp
    refine ⟨_, rfl, 1, rfl, lw, _, rfl, SqL.of hlw, fun p1 hp1 => ⟨p1, rfl, ⟨_, SqL.of upd_same⟩, fun D hD => ?_⟩⟩
    rw [hcut] at hD ⊢
    have e2 := Evl.Ex.new (o := .lst (names.map V.str)) hp1
    have hp1s := upd_same (H := H1) (a := p1) (o := .lst (names.map V.str))
    refine lc_map (walk_list (K := K) (a := p1) (xs := names.map V.str)) hD (fun H' e => SqL.of (e _ _ hp1s)) (fun _ => .bl true) (by rw [List.length_map]; omega) (fun j H3 x H4 _ _ y => by rw [y.1]; exact Evl.Ex.refl _) ?_ ?_
    · rintro j x H3 H4 hj e3 _ ⟨rfl, hx⟩ Qt hQt
      obtain ⟨z, hz, rfl⟩ := List.mem_map.mp (List.mem_of_getElem? hx)
      have hzo := nmS_ok z (hnm z hz)
      refine ⟨rfl, _, rfl, _, _, rfl, .str z, okz hzo.2, fun H5 e5 => ?_⟩
      rw [show nameD (.str z) = true from hzo.1]
      exact hQt H5 e5
    intro H3 e3 hD3
    refine ⟨D, (List.range (names.map V.str).length).map fun _ => true, rfl, SqL.of (by rw [hD3, List.map_map]; rfl), ?_⟩
    rw [show ((List.range (names.map V.str).length).map fun _ => true).all id = true from by simp]
    refine ⟨_, rfl, iteF ?_⟩
    have e13 := e2.trans e3
    refine ⟨_, rfl, 1, rfl, lw, _, rfl, SqL.of (e13 _ _ hlw), fun L hL => ?_⟩
    rw [hcut]
    have e4 := Evl.Ex.new (o := .lst (names.map V.str)) hL
    have nL := (hR1.ext e13).ne hL
    exact hQ L _ (rx1.trans (ex_rx (e13.trans e4))) (hR1.ext (e13.trans e4)) (rx_none rx1 (ex_no e13 hL) nL) nL upd_same
abbrev sClassReader_read_field : Stmt := inClass (top 43) 5
abbrev nClassReader_read_field : List Str := ["self", "words"]
theorem scClassReader_read_field : FnScope nClassReader_read_field ["self"] (defScope sClassReader_read_field) := ⟨rfl, rfl, rfl, by decide +kernel, rfl, by decide +kernel, by decide +kernel⟩
theorem okClassReader_read_field (F : FunD K "read_field" "ClassReader.read_field" (defArgs sClassReader_read_field) (defBody sClassReader_read_field) (defScope sClassReader_read_field) [] [] f fd) (D : FD w K mg) (R : RdF K mg) : FnOk P w K mg base CX0 3 f fd ["self"] (spRF (RA K)) := by
  have T := D.t
  obtain ⟨fdm_take, Fm_take⟩ := R.f_take
  have Gm_take := okClassReader_take (P := P) (base := base) (w := w) Fm_take D R
  have bm_take : Binds K fdm_take ["self"] [] := FunD.bindsN Fm_take fun _ _ _ _ _ _ us hl => match us, hl with | [_], _ => rfl
  obtain ⟨fis_type, fdis_type, gis_type, Fis_type⟩ := D.is_type
  have Gis_type := okis_type (P := P) (base := base) Fis_type D.cd
  have bis_type : Binds K fdis_type ["value"] [] := Fis_type.bindsN fun _ _ _ _ _ _ us hl => match us, hl with | [_], _ => rfl
  obtain ⟨fis_name, fdis_name, gis_name, Fis_name⟩ := D.is_name
  have Gis_name := okis_name (P := P) (base := base) Fis_name D.cd
  have bis_name : Binds K fdis_name ["value"] [] := Fis_name.bindsN fun _ _ _ _ _ _ us hl => match us, hl with | [_], _ => rfl
  refine F.ok scClassReader_read_field (fun vs H Q E h => ?_) (fun cdv A outer s H vs Q E hr h => ?_)
  · obtain ⟨r, dr, l, ls, k, w0, n, kd, rfl, _⟩ := h
    rfl
  · obtain ⟨r, dr, l, ls, k, w0, n, kd, rfl, hR, hk, hls, hn, hkd, hQ⟩ := h
    refine ⟨_, PSs.nox (pss_cons (ps_set (i := 1) scClassReader_read_field.nd rfl (Or.inl rfl) (pe_meth0 (pv 0) R.cl R.m_take Gm_take (hr.mono (by decide)) bm_take .nil pass0))
      (pss_cons (ps_if (PW.pt (pw_or (pt_cmpR op_ne (pe_callB call_len rfl T.len boot_len (pa_cons (pv 1) pa_nil)) pe_int (nomark _)) (pw_or (pt_not (pt_val (pe_call Gis_name (hr.mono (by decide)) rfl gis_name Fis_name.kp bis_name .nil pass0 (pa_cons (pe_ix ix_list (pv 1) pe_int (fun _ _ => rfl)) pa_nil)))) (pw_or1 (pt_not (pt_val (pe_call Gis_type (hr.mono (by decide)) rfl gis_type Fis_type.kp bis_type .nil pass0 (pa_cons (pe_ix ix_list (pv 1) pe_int (fun _ _ => rfl)) pa_nil))))))))
        pss_no
        pss_nil)
      (pss_one (ps_ret (pe_tup (pa_cons (pe_ix ix_list (pv 1) pe_int (fun _ _ => rfl)) (pa_cons (pe_ix ix_list (pv 1) pe_int (fun _ _ => rfl)) pa_nil))))))), ?_⟩
    have h1 := hR.me
    have hno := fS_ok n hn
    have hko := kS_ok kd hkd
    refine ⟨_, rfl, r, dr, _, rfl, h1, rfl, r, dr, l, ls, k, _, rfl, hR, hk, hls.few, fun lw H1 rx1 hR1 hlw nlw hn1 => ?_⟩
    refine ⟨_, rfl, _, _, rfl, .inl ⟨_, SqL.of hlw, rfl⟩, rfl, _, rfl, ifF rfl ?_⟩
    refine ⟨_, rfl, lw, _, 1, .str n, rfl, rfl, SqL.of hlw, atI_nat (j := 1) rfl, _, _, rfl, .str n, okz hno.2, fun H2 e2 => ⟨_, rfl, ?_⟩⟩
    refine ifF (by rw [show nameD (.str n) = true from hno.1]; rfl) ?_
    refine ⟨_, rfl, lw, _, 2, .str kd, rfl, rfl, SqL.of (e2 _ _ hlw), atI_nat (j := 2) rfl, _, _, rfl, .str kd, okz hko.2, fun H3 e3 => ⟨_, rfl, ?_⟩⟩
    refine ifF (by rw [show typeD (.str kd) = true from hko.1]; rfl) ?_
    have e13 := e2.trans e3
    refine ⟨_, rfl, lw, _, 1, .str n, rfl, rfl, SqL.of (e13 _ _ hlw), atI_nat (j := 1) rfl, _, rfl, lw, _, 2, .str kd, rfl, rfl, SqL.of (e13 _ _ hlw), atI_nat (j := 2) rfl, le_line (by simp), fun t ht => ?_⟩
    have e4 := Evl.Ex.new (o := .tup [.str n, .str kd]) ht
    have nL := (hR1.ext e13).ne ht
    exact hQ t _ (rx1.trans (ex_rx (e13.trans e4))) (hR1.ext (e13.trans e4)) (rx_none rx1 (ex_no e13 ht) nL) nL upd_same
abbrev sClassReader_read_head : Stmt := inClass (top 43) 6
abbrev nClassReader_read_head : List Str := ["self", "words", "word"]
theorem scClassReader_read_head : FnScope nClassReader_read_head ["self"] (defScope sClassReader_read_head) := ⟨rfl, rfl, rfl, by decide +kernel, rfl, by decide +kernel, by decide +kernel⟩
theorem okClassReader_read_head (F : FunD K "read_head" "ClassReader.read_head" (defArgs sClassReader_read_head) (defBody sClassReader_read_head) (defScope sClassReader_read_head) [] [] f fd) (D : FD w K mg) (R : RdF K mg) : FnOk P w K mg base CX0 3 f fd ["self"] (spRH (RA K)) := by
  have T := D.t
  obtain ⟨fdm_take, Fm_take⟩ := R.f_take
  have Gm_take := okClassReader_take (P := P) (base := base) (w := w) Fm_take D R
  have bm_take : Binds K fdm_take ["self"] [] := FunD.bindsN Fm_take fun _ _ _ _ _ _ us hl => match us, hl with | [_], _ => rfl
  obtain ⟨fnumber_of, fdnumber_of, gnumber_of, Fnumber_of⟩ := D.number_of
  have Gnumber_of := oknumber_of (P := P) (base := base) Fnumber_of D
  have bnumber_of : Binds K fdnumber_of ["word"] [] := Fnumber_of.bindsN fun _ _ _ _ _ _ us hl => match us, hl with | [_], _ => rfl
  obtain ⟨fis_name, fdis_name, gis_name, Fis_name⟩ := D.is_name
  have Gis_name := okis_name (P := P) (base := base) Fis_name D.cd
  have bis_name : Binds K fdis_name ["value"] [] := Fis_name.bindsN fun _ _ _ _ _ _ us hl => match us, hl with | [_], _ => rfl
  obtain ⟨fis_type, fdis_type, gis_type, Fis_type⟩ := D.is_type
  have Gis_type := okis_type (P := P) (base := base) Fis_type D.cd
  have bis_type : Binds K fdis_type ["value"] [] := Fis_type.bindsN fun _ _ _ _ _ _ us hl => match us, hl with | [_], _ => rfl
  refine F.ok scClassReader_read_head (fun vs H Q E h => ?_) (fun cdv A outer s H vs Q E hr h => ?_)
  · obtain ⟨r, dr, l, ls, k, m, rfl, _⟩ := h
    rfl
  · obtain ⟨r, dr, l, ls, k, m, rfl, hR, hk, hls, hm, hnm, hQ⟩ := h
    refine ⟨_, PSs.nox (pss_cons (ps_set (i := 1) scClassReader_read_head.nd rfl (Or.inl rfl) (pe_meth0 (pv 0) R.cl R.m_take Gm_take (hr.mono (by decide)) bm_take .nil pass0))
      (pss_cons (ps_if (PW.pt (pw_or (pt_cmpR op_lt (pe_callB call_len rfl T.len boot_len (pa_cons (pv 1) pa_nil)) pe_int (nomark _)) (pw_or (pt_not (pt_val (pe_call Gis_name (hr.mono (by decide)) rfl gis_name Fis_name.kp bis_name .nil pass0 (pa_cons (pe_ix ix_list (pv 1) pe_int (fun _ _ => rfl)) pa_nil)))) (pw_or1 (pt_cmpR op_isN (pe_call Gnumber_of (hr.mono (by decide)) rfl gnumber_of Fnumber_of.kp bnumber_of .nil pass0 (pa_cons (pe_ix ix_list (pv 1) pe_int (fun _ _ => rfl)) pa_nil)) pe_non (nomark _))))))
        pss_no
        pss_nil)
      (pss_cons (ps_if (pt_not (pt_val (pe_callB (cr_all rfl) rfl T.all boot_all (pa_cons (pe_lc (own := [("word", 2)]) (g := gName 2) (tt := tYes) rfl scClassReader_read_head.nd (pi_list (pe_slice sl_list (pv 1) (po_some pe_int) po_none)) (blkOk_by (N := nClassReader_read_head) (sc := defScope sClassReader_read_head) (by decide +kernel)) (fun _ _ _ _ _ => (pg_name (i := 2) scClassReader_read_head.nd rfl (Or.inl rfl))) (fun _ _ _ _ _ => pts_nil) (fun _ _ _ _ _ => (pe_call Gis_type (hr.mono (by decide)) rfl gis_type Fis_type.kp bis_type .nil pass0 (pa_cons (pv 2) pa_nil)))) pa_nil))))
        pss_no
        pss_nil)
      (pss_one (ps_ret (pe_slice sl_list (pv 1) (po_some pe_int) po_none)))))), ?_⟩
    have h1 := hR.me
    have hno := fS_ok _ hnm
    have hnp := hm.np
    refine ⟨_, rfl, r, dr, _, rfl, h1, rfl, r, dr, l, ls, k, _, rfl, hR, hk, hls.few, fun lw H1 rx1 hR1 hlw nlw hn1 => ?_⟩
    have hsz : m.size < 41 := by rcases hm.sz with e | e <;> omega
    have hlen : (headW m).length = 4 + m.params.length := by simp [headW]; omega
    have hlw' : H1 lw = some (.lst (.str methS :: .str m.name :: .str (nS m.size) :: .str m.result :: m.params.map V.str)) := hlw
    refine ⟨_, rfl, _, _, rfl, .inl ⟨_, SqL.of hlw', rfl⟩, _, _, rfl, rfl, _, rfl, ?_⟩
    refine ifF (decide_eq_false (by simp; omega)) ?_
    refine ⟨_, rfl, lw, _, 1, .str m.name, rfl, rfl, SqL.of hlw', atI_nat (j := 1) rfl, _, _, rfl, .str m.name, okz hno.2, fun H2 e2 => ⟨_, rfl, ?_⟩⟩
    refine ifF (by rw [show nameD (.str m.name) = true from hno.1]; rfl) ?_
    refine ⟨_, rfl, lw, _, 2, .str (nS m.size), rfl, rfl, SqL.of (e2 _ _ hlw'), atI_nat (j := 2) rfl, m.size, rfl, hsz, fun H3 e3 => ⟨rfl, _, rfl, ifF rfl ?_⟩⟩
    have e13 := e2.trans e3
    have hcut3 : cutV (V.str methS :: .str m.name :: .str (nS m.size) :: .str m.result :: m.params.map V.str) (some 3) none = (m.result :: m.params).map V.str := by
      unfold cutV
      have : HT.sIx (V.str methS :: .str m.name :: .str (nS m.size) :: .str m.result :: m.params.map V.str).length 0 (some 3) = 3 := by
        unfold HT.sIx
        show (if (3 : Int) < 0 then _ else _) = _
        rw [if_neg (by decide)]
        simp
      rw [this, HT.sIx_none]
      simp
      exact List.take_of_length_le (by simp)
    have hcut1 : cutV (V.str methS :: .str m.name :: .str (nS m.size) :: .str m.result :: m.params.map V.str) (some 1) none = (m.name :: nS m.size :: m.result :: m.params).map V.str := (cut1 _ _).1
    refine ⟨_, rfl, 3, rfl, lw, _, rfl, SqL.of (e13 _ _ hlw'), fun p1 hp1 => ⟨p1, rfl, ⟨_, SqL.of upd_same⟩, fun D hD => ?_⟩⟩
    rw [hcut3] at hD ⊢
    have e4 := Evl.Ex.new (o := .lst ((m.result :: m.params).map V.str)) hp1
    have hp1s := upd_same (H := H3) (a := p1) (o := .lst ((m.result :: m.params).map V.str))
    refine lc_map (walk_list (K := K) (a := p1) (xs := (m.result :: m.params).map V.str)) hD (fun H' e => SqL.of (e _ _ hp1s)) (fun _ => .bl true) (by rw [List.length_map, List.length_cons]; omega) (fun j H3 x H4 _ _ y => by rw [y.1]; exact Evl.Ex.refl _) ?_ ?_
    · rintro j x H5 H6 hj e5 _ ⟨rfl, hx⟩ Qt hQt
      obtain ⟨z, hz, rfl⟩ := List.mem_map.mp (List.mem_of_getElem? hx)
      have hzk : z ∈ kS := by
        rcases List.mem_cons.mp hz with rfl | hz
        · exact hm.kr
        · exact hm.kp z hz
      have hzo := kS_ok z hzk
      refine ⟨rfl, _, rfl, _, _, rfl, .str z, okz hzo.2, fun H7 e7 => ?_⟩
      rw [show typeD (.str z) = true from hzo.1]
      exact hQt H7 e7
    intro H5 e5 hD5
    refine ⟨D, (List.range ((m.result :: m.params).map V.str).length).map fun _ => true, rfl, SqL.of (by rw [hD5, List.map_map]; rfl), ?_⟩
    rw [show ((List.range ((m.result :: m.params).map V.str).length).map fun _ => true).all id = true from by simp]
    refine ⟨_, rfl, iteF ?_⟩
    have e15 := (e13.trans e4).trans e5
    refine ⟨_, rfl, 1, rfl, lw, _, rfl, SqL.of (e15 _ _ hlw'), fun L hL => ?_⟩
    rw [hcut1]
    have e6 := Evl.Ex.new (o := .lst ((m.name :: nS m.size :: m.result :: m.params).map V.str)) hL
    have nL := (hR1.ext e15).ne hL
    exact hQ L _ (rx1.trans (ex_rx (e15.trans e6))) (hR1.ext (e15.trans e6)) (rx_none rx1 (ex_no e15 hL) nL) nL upd_same
end
end K50

set_option Elab.async false
set_option linter.all false
set_option maxRecDepth 100000
set_option maxHeartbeats 0
/-! the reader: code and methods -/
namespace K50
open PySem PySem.Spec PyProof.Rows L2 EX2 TX StX
theorem rx_mut {r L : Addr} {H H' : Hp} {o : HO} (e : Rx r H H') (h : H L = none) (n : L ≠ r) : Rx r H (upd H' L o) := by
  have := (show Evl.Ex (rm r H) (rm r H') from e).mut (p := L) (o := o) (by rw [rm_ne n]; exact h)
  rw [← rm_upd n] at this
  exact this
theorem Dq.rmB {H : Hp} {r C dr : Addr} {fs : List (Str × V)} {x : V} {d : PyData} (hr : H r = some (.ins C dr fs)) (h : Dq H x d) : Dq (rm r H) x d := Dq.fr hr (fun b o n e => by rw [rm_ne n]; exact e) h
theorem rx_refl {r : Addr} {H : Hp} : Rx r H H := Evl.Ex.refl _
def spRC (C : Addr) : Sp := fun vs H Q _ => ∃ (r dr l : Addr) (ls : List (List Str)) (k : Nat) (cd : List PyData), vs = [.ref r] ∧ RdAt C dr l H r ls k ∧ Lns ls ∧ CodP cd ∧ (∀ (i : Nat) (d : PyData), cd[i]? = some d → ls[k + i]? = some (insW d)) ∧ ls[k + cd.length]? = some [endS] ∧
  ∀ (L : Addr) (xs : List V) (H' : Hp), Rx r H H' → RdAt C dr l H' r ls (k + (cd.length + 1)) → H L = none → L ≠ r → H' L = some (.lst xs) → DqAll (rm r H') xs cd → Q (.ref L) H'
section
variable {P : Program} {w : World} {K : PySem.W.Frag} {mg : Str → Option Value} {base : Heap} {f : Addr} {fd : FuncData}
abbrev sClassReader_read_code : Stmt := inClass (top 43) 7
abbrev nClassReader_read_code : List Str := ["self", "found", "instruction"]
theorem scClassReader_read_code : FnScope nClassReader_read_code ["self"] (defScope sClassReader_read_code) := ⟨rfl, rfl, rfl, by decide +kernel, rfl, by decide +kernel, by decide +kernel⟩
theorem okClassReader_read_code (F : FunD K "read_code" "ClassReader.read_code" (defArgs sClassReader_read_code) (defBody sClassReader_read_code) (defScope sClassReader_read_code) [] [] f fd) (D : FD w K mg) (R : RdF K mg) : FnOk P w K mg base CX0 6 f fd ["self"] (spRC (RA K)) := by
  have T := D.t
  obtain ⟨fdm_take, Fm_take⟩ := R.f_take
  have Gm_take := okClassReader_take (P := P) (base := base) (w := w) Fm_take D R
  have bm_take : Binds K fdm_take ["self"] [] := FunD.bindsN Fm_take fun _ _ _ _ _ _ us hl => match us, hl with | [_], _ => rfl
  obtain ⟨fdm_first_word, Fm_first_word⟩ := R.f_first_word
  have Gm_first_word := okClassReader_first_word (P := P) (base := base) (w := w) Fm_first_word D R
  have bm_first_word : Binds K fdm_first_word ["self"] [] := FunD.bindsN Fm_first_word fun _ _ _ _ _ _ us hl => match us, hl with | [_], _ => rfl
  obtain ⟨finstruction_of, fdinstruction_of, ginstruction_of, Finstruction_of⟩ := D.instruction_of
  have Ginstruction_of := okinstruction_of (P := P) (base := base) Finstruction_of D
  have binstruction_of : Binds K fdinstruction_of ["words"] [] := Finstruction_of.bindsN fun _ _ _ _ _ _ us hl => match us, hl with | [_], _ => rfl
  refine F.ok scClassReader_read_code (fun vs H Q E h => ?_) (fun cdv A outer s H vs Q E hr h => ?_)
  · obtain ⟨r, dr, l, ls, k, cd, rfl, _⟩ := h
    rfl
  · obtain ⟨r, dr, l, ls, k, cd, rfl, hR, hls, hcd, hcode, hend, hQ⟩ := h
    refine ⟨_, PSs.nox (pss_cons (ps_set (i := 1) scClassReader_read_code.nd rfl (Or.inl rfl) (pe_lst pa_nil))
      (pss_cons (ps_while PassesOwn.never (pt_cmpR op_ne (pe_meth0 (pv 0) R.cl R.m_first_word Gm_first_word (hr.mono (by decide)) bm_first_word .nil pass0) pe_str (nomark _))
        (pss_cons (ps_set (i := 2) scClassReader_read_code.nd rfl (Or.inl rfl) (pe_call Ginstruction_of (hr.mono (by decide)) rfl ginstruction_of Finstruction_of.kp binstruction_of .nil pass0 (pa_cons (pe_meth0 (pv 0) R.cl R.m_take Gm_take (hr.mono (by decide)) bm_take .nil pass0) pa_nil)))
        (pss_cons (ps_if (pt_cmpR op_isN (pv 2) pe_non (nomark _))
          pss_no
          pss_nil)
        (pss_one (ps_expr (pe_bm PySem.F.plainAttrs_list PySem.F.slot_list_append PySem.F.type_list_append mt_append (pv 1) (pa_cons (pv 2) pa_nil)))))))
      (pss_cons (ps_if (pt_cmpR (op_neD hr.units) (pe_meth0 (pv 0) R.cl R.m_take Gm_take (hr.mono (by decide)) bm_take .nil pass0) (pe_lst (pa_cons pe_str pa_nil)) (nomark _))
        pss_no
        pss_nil)
      (pss_one (ps_ret (pv 1)))))), ?_⟩
    have hfew := hls.few
    have c1 := hcd.c1
    refine ⟨Nat.zero_le _, fun L hL => ?_⟩
    have nL : L ≠ r := hR.ne hL
    have e0 := Evl.Ex.new (o := .lst []) hL
    refine ⟨fun n σ H' => ∃ j xs v, n = cd.length - j ∧ j ≤ cd.length ∧ Rx r H H' ∧ RdAt (RA K) dr l H' r ls (k + j) ∧ H' L = some (.lst xs) ∧ DqAll (rm r H') xs (cd.take j) ∧ σ = [some (.ref r), some (.ref L), v],
      ⟨cd.length, 0, [], none, rfl, Nat.zero_le _, ex_rx e0, hR.ext e0, upd_same, .nil, rfl⟩, ?_⟩
    rintro n σ H1 ⟨j, xs, v, rfl, hj, rx1, hR1, hL1, hall, rfl⟩
    have h1 := hR1.me
    refine ⟨_, rfl, r, dr, _, rfl, h1, rfl, r, dr, l, ls, k + j, rfl, hR1, hls, rfl, _, rfl, ?_⟩
    by_cases hlt : j < cd.length
    · obtain ⟨d, hd⟩ : ∃ d, cd[j]? = some d := ⟨_, List.getElem?_eq_getElem hlt⟩
      have hk := hcode j d hd
      obtain ⟨z, fm, ds, rfl, hp⟩ := hcd.ci d (List.mem_of_getElem? hd)
      have hz : firstW ls (k + j) = z := by unfold firstW; rw [hk]; rfl
      have hze : z ≠ "end" := (forms_word _ hp.mem).2.1
      rw [hz]
      refine ifT (by rw [decide_eq_false (fun e => hze (V.str.inj e))]; rfl) ?_
      refine ⟨fun σ' H' => ∃ xs v, Rx r H H' ∧ RdAt (RA K) dr l H' r ls (k + (j + 1)) ∧ H' L = some (.lst xs) ∧ DqAll (rm r H') xs (cd.take (j + 1)) ∧ σ' = [some (.ref r), some (.ref L), v],
        fun σ' H' ⟨xs, v, a1, a2, a3, a4, a5⟩ => ⟨cd.length - (j + 1), by omega, j + 1, xs, v, rfl, hlt, a1, a2, a3, a4, a5⟩, ?_⟩
      refine ⟨_, rfl, r, dr, _, rfl, h1, rfl, r, dr, l, ls, k + j, _, rfl, hR1, hk, hfew, fun lw H2 rx2 hR2 hlw nlw hn2 => ?_⟩
      refine ⟨lw, cd.length, z, fm, ds, rfl, hlw, by omega, hp, fun H3 u e3 hu => ?_⟩
      have hu' := hu
      obtain ⟨ua, us, rfl, _, _⟩ := hu.tupI
      refine ⟨_, rfl, rfl, _, rfl, ifF rfl ?_⟩
      have rx13 : Rx r H1 H3 := rx2.trans (ex_rx e3)
      have hL3 := rx13.at hL1 nL
      have rx03 := rx1.trans rx13
      have hR3 := hR2.ext e3
      have hxl : xs.length = j := by rw [hall.length, List.length_take]; omega
      refine ⟨_, rfl, .inl ⟨rfl, _, SqL.of hL3⟩, _, rfl, L, xs, _, rfl, rfl, hL3, Nat.lt_of_lt_of_le (show xs.length < 1000 by omega) (le_line (Nat.le_refl _)), ?_⟩
      have hno : noLs (cd.take j) = true := noLs_of fun d hd => (inD_ok (hcd.ci d (List.mem_of_mem_take hd))).2
      have hnu : noL (.tuple (.str z :: ds)) = true := hp.ok.2
      refine ⟨xs ++ [.ref ua], _, rx_mut rx03 hL nL, ?_, upd_same, ?_, rfl⟩
      · exact hR.keep (rx_mut rx03 hL nL) ((upd_ne (Ne.symm nL)).trans hR3.me)
      · rw [List.take_succ, hd]
        refine DqAll.app (DzAll.mutD hL3 nL (DqAll.ext rx13 hall) hno) (DzAll.mutD hL3 nL (.cons (Dq.rmB hR3.me hu') .nil) (by simp [noLs, hnu]))
    · obtain rfl : j = cd.length := by omega
      have hz : firstW ls (k + cd.length) = "end" := by unfold firstW; rw [hend]; rfl
      rw [hz]
      refine ifF rfl ?_
      refine ⟨_, rfl, r, dr, _, rfl, h1, rfl, r, dr, l, ls, k + cd.length, _, rfl, hR1, hend, hfew, fun lw H2 rx2 hR2 hlw nlw hn2 => ⟨le_line (by simp), fun b hb => ?_⟩⟩
      have eb := Evl.Ex.new (o := .lst [.str endS]) hb
      have hl1 : Dp K (upd H2 b (.lst [.str "end"])) (.ref lw) (.list [.str endS]) := .lst (SqL.of (eb _ _ hlw)) (.cons (.str _) .nil)
      have hl2 : Dp K (upd H2 b (.lst [.str "end"])) (.ref b) (.list [.str endS]) := .lst (SqL.of upd_same) (.cons (.str _) .nil)
      have hlay : PyData.canLay0 (.list [.str endS]) = true := by decide +kernel
      have hsh : SeqAt.shaped (.list [.str endS]) = true := by decide +kernel
      refine ⟨_, _, hl1, hl2, hsh, hsh, _, rfl, ?_⟩
      rw [SeqAt.eqv_refl _ hlay]
      refine ifF rfl ?_
      rw [List.take_length] at hall
      have rx12 : Rx r H1 _ := rx2.trans (ex_rx eb)
      exact ⟨_, rfl, hQ L xs _ (rx1.trans rx12) (hR2.ext eb) hL nL (rx12.at hL1 nL) (DqAll.ext rx12 hall)⟩
end
end K50

set_option Elab.async false
set_option linter.all false
set_option maxRecDepth 100000
set_option maxHeartbeats 0
/-! the reader: methods -/
namespace K50
open PySem PySem.Spec PyProof.Rows L2 EX2 TX StX
/-- a method's parts as they are read, apart from the list at L -/
def MdX (r L : Addr) (H : Hp) (v : V) (m : Mt) : Prop := ∃ (a pl cl : Addr) (xs : List V), v = .ref a ∧ H a = some (.lst [.str m.name, .ref pl, .str m.result, .int m.size, .ref cl]) ∧ H pl = some (.lst (m.params.map V.str)) ∧ H cl = some (.lst xs) ∧ DqAll (rm r H) xs m.code ∧
  (a ≠ L ∧ pl ≠ L ∧ cl ≠ L) ∧ (a ≠ r ∧ pl ≠ r ∧ cl ≠ r)
theorem MdX.rx {r L : Addr} {H H' : Hp} {v : V} {m : Mt} (h : MdX r L H v m) (e : Rx r H H') : MdX r L H' v m := by
  obtain ⟨a, pl, cl, xs, h1, h2, h3, h4, h5, h6, h7⟩ := h
  exact ⟨a, pl, cl, xs, h1, e.at h2 h7.1, e.at h3 h7.2.1, e.at h4 h7.2.2, DqAll.ext e h5, h6, h7⟩
theorem MdX.mut {r L : Addr} {H : Hp} {v : V} {m : Mt} {l : List V} {o : HO} (h : MdX r L H v m) (hL : H L = some (.lst l)) (n : L ≠ r) (hn : noLs m.code = true) : MdX r L (upd H L o) v m := by
  obtain ⟨a, pl, cl, xs, h1, h2, h3, h4, h5, h6, h7⟩ := h
  exact ⟨a, pl, cl, xs, h1, (upd_ne h6.1).trans h2, (upd_ne h6.2.1).trans h3, (upd_ne h6.2.2).trans h4, DzAll.mutD hL n h5 hn, h6, h7⟩
/-- the lines of a method begin at k -/
def LnM (ls : List (List Str)) (k : Nat) (m : Mt) : Prop := ls[k]? = some (headW m) ∧ (∀ (i : Nat) (d : PyData), m.code[i]? = some d → ls[k + 1 + i]? = some (insW d)) ∧ ls[k + 1 + m.code.length]? = some [endS]
def spRM (C : Addr) : Sp := fun vs H Q _ => ∃ (r dr l : Addr) (ls : List (List Str)) (k : Nat) (m : Mt), vs = [.ref r] ∧ RdAt C dr l H r ls k ∧ Lns ls ∧ MtP m ∧ m.name ∈ fS ∧ LnM ls k m ∧
  ∀ (v : V) (H' : Hp), Rx r H H' → RdAt C dr l H' r ls (k + (m.code.length + 2)) → (∀ L, H L ≠ none → L ≠ r → MdX r L H' v m) → Q v H'
section
variable {P : Program} {w : World} {K : PySem.W.Frag} {mg : Str → Option Value} {base : Heap} {f : Addr} {fd : FuncData}
abbrev sClassReader_read_method : Stmt := inClass (top 43) 8
abbrev nClassReader_read_method : List Str := ["self", "words"]
theorem scClassReader_read_method : FnScope nClassReader_read_method ["self"] (defScope sClassReader_read_method) := ⟨rfl, rfl, rfl, by decide +kernel, rfl, by decide +kernel, by decide +kernel⟩
theorem okClassReader_read_method (F : FunD K "read_method" "ClassReader.read_method" (defArgs sClassReader_read_method) (defBody sClassReader_read_method) (defScope sClassReader_read_method) [] [] f fd) (D : FD w K mg) (R : RdF K mg) : FnOk P w K mg base CX0 7 f fd ["self"] (spRM (RA K)) := by
  have T := D.t
  obtain ⟨fdm_read_head, Fm_read_head⟩ := R.f_read_head
  have Gm_read_head := okClassReader_read_head (P := P) (base := base) (w := w) Fm_read_head D R
  have bm_read_head : Binds K fdm_read_head ["self"] [] := FunD.bindsN Fm_read_head fun _ _ _ _ _ _ us hl => match us, hl with | [_], _ => rfl
  obtain ⟨fdm_read_code, Fm_read_code⟩ := R.f_read_code
  have Gm_read_code := okClassReader_read_code (P := P) (base := base) (w := w) Fm_read_code D R
  have bm_read_code : Binds K fdm_read_code ["self"] [] := FunD.bindsN Fm_read_code fun _ _ _ _ _ _ us hl => match us, hl with | [_], _ => rfl
  obtain ⟨fnumber_of, fdnumber_of, gnumber_of, Fnumber_of⟩ := D.number_of
  have Gnumber_of := oknumber_of (P := P) (base := base) Fnumber_of D
  have bnumber_of : Binds K fdnumber_of ["word"] [] := Fnumber_of.bindsN fun _ _ _ _ _ _ us hl => match us, hl with | [_], _ => rfl
  refine F.ok scClassReader_read_method (fun vs H Q E h => ?_) (fun cdv A outer s H vs Q E hr h => ?_)
  · obtain ⟨r, dr, l, ls, k, m, rfl, _⟩ := h
    rfl
  · obtain ⟨r, dr, l, ls, k, m, rfl, hR, hls, hm, hnm, ⟨hl1, hl2, hl3⟩, hQ⟩ := h
    refine ⟨_, PSs.nox (pss_cons (ps_set (i := 1) scClassReader_read_method.nd rfl (Or.inl rfl) (pe_meth0 (pv 0) R.cl R.m_read_head Gm_read_head (hr.mono (by decide)) bm_read_head .nil pass0))
      (pss_one (ps_ret (pe_lst (pa_cons (pe_ix ix_list (pv 1) pe_int (fun _ _ => rfl)) (pa_cons (pe_slice sl_list (pv 1) (po_some pe_int) po_none) (pa_cons (pe_ix ix_list (pv 1) pe_int (fun _ _ => rfl)) (pa_cons (pe_call Gnumber_of (hr.mono (by decide)) rfl gnumber_of Fnumber_of.kp bnumber_of .nil pass0 (pa_cons (pe_ix ix_list (pv 1) pe_int (fun _ _ => rfl)) pa_nil)) (pa_cons (pe_meth0 (pv 0) R.cl R.m_read_code Gm_read_code (hr.mono (by decide)) bm_read_code .nil pass0) pa_nil))))))))), ?_⟩
    have hsz : m.size < 41 := by rcases hm.sz with e | e <;> omega
    refine ⟨_, rfl, r, dr, _, rfl, hR.me, rfl, r, dr, l, ls, k, m, rfl, hR, hl1, hls, hm, hnm, fun W H1 rx1 hR1 hHW nW hW => ?_⟩
    have hcut3 : cutV ((m.name :: nS m.size :: m.result :: m.params).map V.str) (some 3) none = m.params.map V.str := by
      unfold cutV
      have : HT.sIx ((m.name :: nS m.size :: m.result :: m.params).map V.str).length 0 (some 3) = 3 := by
        unfold HT.sIx
        show (if (3 : Int) < 0 then _ else _) = _
        rw [if_neg (by decide)]
        simp
      rw [this, HT.sIx_none]
      simp
      exact List.take_of_length_le (by simp)
    refine ⟨_, rfl, W, _, 0, .str m.name, rfl, rfl, SqL.of hW, at0, _, rfl, 3, rfl, W, _, rfl, SqL.of hW, fun pl hpl => ?_⟩
    rw [hcut3]
    have e2 := Evl.Ex.new (o := .lst (m.params.map V.str)) hpl
    have hpls := upd_same (H := H1) (a := pl) (o := .lst (m.params.map V.str))
    have npl := hR1.ne hpl
    have hHpl := rx_none rx1 hpl npl
    generalize upd H1 pl (.lst (m.params.map V.str)) = H2 at e2 hpls
    have hR2 := hR1.ext e2
    have hW2 := e2 _ _ hW
    have rx2 := rx1.trans (ex_rx e2)
    refine ⟨_, rfl, W, _, 2, .str m.result, rfl, rfl, SqL.of hW2, atI_nat (j := 2) rfl, _, rfl, W, _, 1, .str (nS m.size), rfl, rfl, SqL.of hW2, atI_nat (j := 1) rfl, m.size, rfl, hsz, fun H3 e3 => ?_⟩
    have hR3 := hR2.ext e3
    have rx3 := rx2.trans (ex_rx e3)
    have hpl3 := e3 _ _ hpls
    refine ⟨_, rfl, r, dr, _, rfl, hR3.me, rfl, r, dr, l, ls, k + 1, m.code, rfl, hR3, hls, hm.cd, hl2, hl3, fun cl xs H4 rx4 hR4 hHcl ncl hcl hall => ⟨le_line (by simp), fun a ha => ?_⟩⟩
    have e5 := Evl.Ex.new (o := .lst [.str m.name, .ref pl, .str m.result, .int m.size, .ref cl]) ha
    have na := hR4.ne ha
    have rx5 : Rx r H _ := (rx3.trans rx4).trans (ex_rx e5)
    refine hQ _ _ rx5 ?_ fun L hHL nL => ?_
    · have := hR4.ext e5
      rw [show k + 1 + (m.code.length + 1) = k + (m.code.length + 2) by omega] at this
      exact this
    · have h3L : H3 L ≠ none := fun h => hHL (rx_none rx3 h nL)
      have h4L : H4 L ≠ none := fun h => h3L (rx_none rx4 h nL)
      refine ⟨a, pl, cl, xs, rfl, upd_same, e5 _ _ (rx4.at hpl3 npl), e5 _ _ hcl, DqAll.ext (ex_rx e5) hall, ⟨fun e => ?_, fun e => ?_, fun e => ?_⟩, na, npl, ncl⟩
      · rw [e] at ha; exact h4L ha
      · rw [e] at hHpl; exact hHL hHpl
      · rw [e] at hHcl; exact h3L hHcl
end
end K50

set_option Elab.async false
set_option linter.all false
set_option maxRecDepth 100000
set_option maxHeartbeats 0
/-! the reader: all -/
namespace K50
open PySem PySem.Spec PyProof.Rows L2 EX2 TX StX
def fw (X : List (List Str)) : Str := (X[0]?.map fun ws => ws.headD Str.empty).getD Str.empty
theorem firstW_drop {ls X : List (List Str)} {k : Nat} (h : ls.drop k = X) : firstW ls k = fw X := by
  unfold firstW fw
  rw [← h, List.getElem?_drop, Nat.add_zero]
theorem drop_get {ls X : List (List Str)} {k i : Nat} (h : ls.drop k = X) : ls[k + i]? = X[i]? := by rw [← h, List.getElem?_drop]
theorem drop_get0 {ls X : List (List Str)} {k : Nat} (h : ls.drop k = X) : ls[k]? = X[0]? := by rw [← h, List.getElem?_drop, Nat.add_zero]
abbrev mL (T : Tx) : List (List Str) := T.marks.map fun k => [markS, k]
abbrev fL (T : Tx) : List (List Str) := T.fields.map fun q => [fieldS, q.1, q.2]
abbrev xL (T : Tx) : List (List Str) := T.meths.flatMap linesM
theorem linesT_eq (T : Tx) : linesT T = [classS, T.name, T.above] :: (mL T ++ (fL T ++ xL T)) := by
  unfold linesT
  simp [List.append_assoc]
theorem d1 (T : Tx) {j : Nat} (h : j ≤ T.marks.length) : (linesT T).drop (1 + j) = ((T.marks.drop j).map fun k => [markS, k]) ++ (fL T ++ xL T) := by
  rw [linesT_eq, Nat.add_comm, List.drop_succ_cons, List.drop_append_of_le_length (by rw [List.length_map]; exact h), List.map_drop]
theorem d2 (T : Tx) {j : Nat} (h : j ≤ T.fields.length) : (linesT T).drop (1 + T.marks.length + j) = ((T.fields.drop j).map fun q => [fieldS, q.1, q.2]) ++ xL T := by
  rw [← List.drop_drop, d1 T (Nat.le_refl _), List.drop_length, List.map_nil, List.nil_append, List.drop_append_of_le_length (by rw [List.length_map]; exact h), List.map_drop]
theorem d3 (T : Tx) : (linesT T).drop (1 + T.marks.length + T.fields.length) = xL T := by
  rw [d2 T (Nat.le_refl _), List.drop_length, List.map_nil, List.nil_append]
theorem linesM_length (m : Mt) : (linesM m).length = m.code.length + 2 := by simp [linesM]
theorem lnM_of {ls R : List (List Str)} {k : Nat} {m : Mt} (h : ls.drop k = linesM m ++ R) : LnM ls k m := by
  refine ⟨?_, fun i d hd => ?_, ?_⟩
  · rw [drop_get0 h]
    simp [linesM]
  · rw [Nat.add_assoc, drop_get h]
    have hi := (List.getElem?_eq_some_iff.mp hd).1
    rw [List.getElem?_append_left (by rw [linesM_length]; omega)]
    unfold linesM
    rw [List.getElem?_append_left (by simp; omega), Nat.add_comm 1 i, List.getElem?_cons_succ, List.getElem?_map, hd]
    rfl
  · rw [Nat.add_assoc, drop_get h, List.getElem?_append_left (by rw [linesM_length]; omega)]
    unfold linesM
    rw [List.getElem?_append_right (by simp; omega)]
    simp
    rw [show 1 + m.code.length - (m.code.length + 1) = 0 by omega]
    rfl
theorem fw_x {ms : List Mt} : fw (ms.flatMap linesM) = methS ∨ (ms = [] ∧ fw (ms.flatMap linesM) = Str.empty) := by
  cases ms with
  | nil => exact .inr ⟨rfl, rfl⟩
  | cons m ms => exact .inl rfl
theorem sg_ne : (fieldS ≠ "mark" ∧ methS ≠ "mark" ∧ Str.empty ≠ "mark") ∧ (methS ≠ "field" ∧ Str.empty ≠ "field") ∧ Str.empty ≠ "method" := by decide +kernel
theorem fw_f {T : Tx} : fw (fL T ++ xL T) ≠ "mark" := by
  unfold fL
  cases h : T.fields with
  | nil =>
    rw [List.map_nil, List.nil_append]
    rcases fw_x (ms := T.meths) with e | ⟨_, e⟩ <;> rw [e]
    · exact sg_ne.1.2.1
    · exact sg_ne.1.2.2
  | cons q qs => exact sg_ne.1.1
theorem fw_m {T : Tx} : fw (xL T) ≠ "field" := by
  rcases fw_x (ms := T.meths) with e | ⟨_, e⟩ <;> rw [e]
  · exact sg_ne.2.1.1
  · exact sg_ne.2.1.2
theorem linesT_lns {T : Tx} (hT : TxP T) : Lns (linesT T) := by
  have hok := linesT_ok hT
  refine ⟨fun ws hw e => ?_, hok.1, fun ws hw => (hok.2 ws hw).1⟩
  subst e
  rw [linesT_eq] at hw
  simp only [List.mem_cons, List.mem_append, List.mem_map, List.mem_flatMap] at hw
  rcases hw with h | ⟨_, _, h⟩ | ⟨_, _, h⟩ | ⟨m, hm, h⟩
  · cases h
  · cases h
  · cases h
  · rcases List.mem_append.mp (show [] ∈ (headW m :: m.code.map insW) ++ [[endS]] from h) with h | h
    · rcases List.mem_cons.mp h with h | h
      · cases h
      · obtain ⟨d, hd, e⟩ := List.mem_map.mp h
        obtain ⟨z, fm, ds, rfl, _⟩ := (hT.ms.2 m hm).cd.ci d hd
        cases e
    · cases List.mem_singleton.mp h
theorem All2.impM {α β : Type} {R S : α → β → Prop} {as : List α} {bs : List β} (h : All2 R as bs) (q : ∀ a b, b ∈ bs → R a b → S a b) : All2 S as bs := by
  induction h with
  | nil => exact .nil
  | cons h _ ih => exact .cons (q _ _ List.mem_cons_self h) (ih fun a b hb => q a b (List.mem_cons_of_mem _ hb))
def spRA (C : Addr) : Sp := fun vs H Q _ => ∃ (r dr l : Addr) (T : Tx), vs = [.ref r] ∧ RdAt C dr l H r (linesT T) 0 ∧ TxP T ∧
  ∀ (a mk fl me : Addr) (fx mx : List V) (H' : Hp), H' a = some (.lst [.str T.name, .str T.above, .ref mk, .ref fl, .ref me]) → H' mk = some (.lst (T.marks.map V.str)) → H' fl = some (.lst fx) → DqAll H' fx (T.fields.map fldD) → H' me = some (.lst mx) → All2 (MdX r me H') mx T.meths → Rx r H H' → Q (.ref a) H'
section
variable {P : Program} {w : World} {K : PySem.W.Frag} {mg : Str → Option Value} {base : Heap} {f : Addr} {fd : FuncData}
abbrev sClassReader_read_all : Stmt := inClass (top 43) 9
abbrev nClassReader_read_all : List Str := ["self", "name", "above", "marks", "fields", "methods"]
theorem scClassReader_read_all : FnScope nClassReader_read_all ["self"] (defScope sClassReader_read_all) := ⟨rfl, rfl, rfl, by decide +kernel, rfl, by decide +kernel, by decide +kernel⟩
theorem okClassReader_read_all (F : FunD K "read_all" "ClassReader.read_all" (defArgs sClassReader_read_all) (defBody sClassReader_read_all) (defScope sClassReader_read_all) [] [] f fd) (D : FD w K mg) (R : RdF K mg) : FnOk P w K mg base CX0 8 f fd ["self"] (spRA (RA K)) := by
  have T := D.t
  obtain ⟨fdm_first_word, Fm_first_word⟩ := R.f_first_word
  have Gm_first_word := okClassReader_first_word (P := P) (base := base) (w := w) Fm_first_word D R
  have bm_first_word : Binds K fdm_first_word ["self"] [] := FunD.bindsN Fm_first_word fun _ _ _ _ _ _ us hl => match us, hl with | [_], _ => rfl
  obtain ⟨fdm_take_names, Fm_take_names⟩ := R.f_take_names
  have Gm_take_names := okClassReader_take_names (P := P) (base := base) (w := w) Fm_take_names D R
  have bm_take_names : Binds K fdm_take_names ["self", "many"] [] := FunD.bindsN Fm_take_names fun _ _ _ _ _ _ us hl => match us, hl with | [_, _], _ => rfl
  obtain ⟨fdm_read_field, Fm_read_field⟩ := R.f_read_field
  have Gm_read_field := okClassReader_read_field (P := P) (base := base) (w := w) Fm_read_field D R
  have bm_read_field : Binds K fdm_read_field ["self"] [] := FunD.bindsN Fm_read_field fun _ _ _ _ _ _ us hl => match us, hl with | [_], _ => rfl
  obtain ⟨fdm_read_method, Fm_read_method⟩ := R.f_read_method
  have Gm_read_method := okClassReader_read_method (P := P) (base := base) (w := w) Fm_read_method D R
  have bm_read_method : Binds K fdm_read_method ["self"] [] := FunD.bindsN Fm_read_method fun _ _ _ _ _ _ us hl => match us, hl with | [_], _ => rfl
  refine F.ok scClassReader_read_all (fun vs H Q E h => ?_) (fun cdv A outer s H vs Q E hr h => ?_)
  · obtain ⟨r, dr, l, T', rfl, _⟩ := h
    rfl
  · obtain ⟨r, dr, l, TT, rfl, hR, hT, hQ⟩ := h
    refine ⟨_, PSs.nox (pss_cons (ps_if (pt_cmpR op_ne (pe_meth0 (pv 0) R.cl R.m_first_word Gm_first_word (hr.mono (by decide)) bm_first_word .nil pass0) pe_str (nomark _))
        pss_no
        pss_nil)
      (pss_cons (ps_asg (pe_meth (pv 0) R.cl R.m_take_names Gm_take_names (hr.mono (by decide)) bm_take_names .nil pass0 (pa_cons pe_int pa_nil)) (pg_lst rfl (pgs_cons (pg_name (i := 1) scClassReader_read_all.nd rfl (Or.inl rfl)) (pgs_cons (pg_name (i := 2) scClassReader_read_all.nd rfl (Or.inl rfl)) pgs_nil))))
      (pss_cons (ps_par3 (i := 3) (j := 4) (l := 5) rfl scClassReader_read_all.nd rfl rfl rfl (by decide) (by decide) (by decide) rfl rfl rfl (pa_cons (pe_lst pa_nil) (pa_cons (pe_lst pa_nil) (pa_cons (pe_lst pa_nil) pa_nil))) (by rfl))
      (pss_cons (ps_while PassesOwn.never (pt_cmpR op_eq (pe_meth0 (pv 0) R.cl R.m_first_word Gm_first_word (hr.mono (by decide)) bm_first_word .nil pass0) pe_str (nomark _))
        (pss_one (ps_expr (pe_bm PySem.F.plainAttrs_list PySem.F.slot_list_extend PySem.F.type_list_extend mt_extend (pv 3) (pa_cons (pe_meth (pv 0) R.cl R.m_take_names Gm_take_names (hr.mono (by decide)) bm_take_names .nil pass0 (pa_cons pe_int pa_nil)) pa_nil)))))
      (pss_cons (ps_while PassesOwn.never (pt_cmpR op_eq (pe_meth0 (pv 0) R.cl R.m_first_word Gm_first_word (hr.mono (by decide)) bm_first_word .nil pass0) pe_str (nomark _))
        (pss_one (ps_expr (pe_bm PySem.F.plainAttrs_list PySem.F.slot_list_append PySem.F.type_list_append mt_append (pv 4) (pa_cons (pe_meth0 (pv 0) R.cl R.m_read_field Gm_read_field (hr.mono (by decide)) bm_read_field .nil pass0) pa_nil)))))
      (pss_cons (ps_while PassesOwn.never (pt_cmpR op_eq (pe_meth0 (pv 0) R.cl R.m_first_word Gm_first_word (hr.mono (by decide)) bm_first_word .nil pass0) pe_str (nomark _))
        (pss_one (ps_expr (pe_bm PySem.F.plainAttrs_list PySem.F.slot_list_append PySem.F.type_list_append mt_append (pv 5) (pa_cons (pe_meth0 (pv 0) R.cl R.m_read_method Gm_read_method (hr.mono (by decide)) bm_read_method .nil pass0) pa_nil)))))
      (pss_cons (ps_if (pt_cmpR op_lt (pe_fld (pv 0) rfl) (pe_callB call_len rfl T.len boot_len (pa_cons (pe_fld (pv 0) rfl) pa_nil)) (nomark _))
        pss_no
        pss_nil)
      (pss_one (ps_ret (pe_lst (pa_cons (pv 1) (pa_cons (pv 2) (pa_cons (pv 3) (pa_cons (pv 4) (pa_cons (pv 5) pa_nil))))))))))))))), ?_⟩
    have hls := linesT_lns hT
    have h0 : (linesT TT)[0]? = some [classS, TT.name, TT.above] := by rw [linesT_eq]; rfl
    refine ⟨_, rfl, r, dr, _, rfl, hR.me, rfl, r, dr, l, linesT TT, 0, rfl, hR, hls, rfl, _, rfl, ?_⟩
    refine ifF (by rw [show firstW (linesT TT) 0 = classS from by unfold firstW; rw [h0]; rfl]; decide +kernel) ?_
    have hnm : ∀ z ∈ [TT.name, TT.above], z ∈ nmS := fun z hz => by
      simp only [List.mem_cons, List.not_mem_nil, or_false] at hz
      rcases hz with rfl | rfl
      · exact (cnS_ok _ hT.n).2.2
      · exact hT.a
    refine ⟨_, rfl, r, dr, _, rfl, hR.me, rfl, r, dr, l, linesT TT, 0, classS, [TT.name, TT.above], rfl, hR, h0, hls, hnm, fun N H1 rx1 hR1 hHN nN hN => ?_⟩
    refine ⟨N, _, rfl, SqL.of hN, rfl, _, _, rfl, _, _, rfl, rfl, ?_⟩
    refine ⟨Nat.zero_le _, fun A hA => ⟨Nat.zero_le _, fun B hB => ⟨Nat.zero_le _, fun C hC => ⟨_, _, _, rfl, ?_⟩⟩⟩⟩
    have eA := Evl.Ex.new (o := .lst []) hA
    have eB := Evl.Ex.new (o := .lst []) hB
    have eC := Evl.Ex.new (o := .lst []) hC
    have e2 := (eA.trans eB).trans eC
    have nA := hR1.ne hA
    have nB := (hR1.ext eA).ne hB
    have nC := (hR1.ext (eA.trans eB)).ne hC
    have hHA := rx_none rx1 hA nA
    have hHB := rx_none rx1 (ex_no eA hB) nB
    have hHC := rx_none rx1 (ex_no (eA.trans eB) hC) nC
    have nAB : A ≠ B := fun e => by rw [← e, upd_same] at hB; cases hB
    have nAC : A ≠ C := fun e => by rw [← e] at hC; rw [eB _ _ upd_same] at hC; cases hC
    have nBC : B ≠ C := fun e => by rw [← e, upd_same] at hC; cases hC
    have hA2 := eC _ _ (eB _ _ (upd_same (H := H1) (a := A) (o := .lst [])))
    have hB2 := eC _ _ (upd_same (H := upd H1 A (.lst [])) (a := B) (o := .lst []))
    have hC2 := upd_same (H := upd (upd H1 A (.lst [])) B (.lst [])) (a := C) (o := .lst [])
    have rx2 := rx1.trans (ex_rx e2)
    have hR2 := hR1.ext e2
    generalize upd (upd (upd H1 A (.lst [])) B (.lst [])) C (.lst []) = H2 at hA2 hB2 hC2 rx2 hR2
    clear eA eB eC e2 hA hB hC
    have hm2 := (mkU_ok _ hT.m).1
    have hmk := (mkU_ok _ hT.m).2.2
    have hf2 := (fnU_ok _ hT.f.1).1
    rw [List.length_map] at hf2
    have hfk := (fnU_ok _ hT.f.1).2.2
    have hx2 := (mnU_ok _ hT.ms.1).1
    rw [List.length_map] at hx2
    -- marks
    refine ⟨fun n σ H' => ∃ j, n = TT.marks.length - j ∧ j ≤ TT.marks.length ∧ Rx r H H' ∧ RdAt (RA K) dr l H' r (linesT TT) (1 + j) ∧ H' A = some (.lst ((TT.marks.take j).map V.str)) ∧ H' B = some (.lst []) ∧ H' C = some (.lst []) ∧ σ = [some (.ref r), some (.str TT.name), some (.str TT.above), some (.ref A), some (.ref B), some (.ref C)],
      ⟨TT.marks.length, 0, rfl, Nat.zero_le _, rx2, hR2, hA2, hB2, hC2, rfl⟩, ?_⟩
    rintro n σ H3 ⟨j, rfl, hj, rx3, hR3, hA3, hB3, hC3, rfl⟩
    refine ⟨_, rfl, r, dr, _, rfl, hR3.me, rfl, r, dr, l, linesT TT, 1 + j, rfl, hR3, hls, rfl, _, rfl, ?_⟩
    have hd := d1 TT hj
    by_cases hlt : j < TT.marks.length
    · obtain ⟨k, hk⟩ : ∃ k, TT.marks[j]? = some k := ⟨_, List.getElem?_eq_getElem hlt⟩
      have hdj : TT.marks.drop j = k :: TT.marks.drop (j + 1) := by
        rw [List.drop_eq_getElem_cons hlt]
        rw [List.getElem?_eq_getElem hlt] at hk
        rw [Option.some.inj hk]
      rw [hdj] at hd
      have hfw : firstW (linesT TT) (1 + j) = markS := by rw [firstW_drop hd]; rfl
      refine ifT (by rw [hfw]; decide +kernel) ?_
      refine ⟨fun σ' H' => Rx r H H' ∧ RdAt (RA K) dr l H' r (linesT TT) (1 + (j + 1)) ∧ H' A = some (.lst ((TT.marks.take (j + 1)).map V.str)) ∧ H' B = some (.lst []) ∧ H' C = some (.lst []) ∧ σ' = [some (.ref r), some (.str TT.name), some (.str TT.above), some (.ref A), some (.ref B), some (.ref C)],
        fun σ' H' ⟨a1, a2, a3, a4, a5, a6⟩ => ⟨TT.marks.length - (j + 1), by omega, j + 1, rfl, hlt, a1, a2, a3, a4, a5, a6⟩, ?_⟩
      have hk0 : (linesT TT)[1 + j]? = some (markS :: [k]) := by rw [drop_get0 hd]; rfl
      refine ⟨_, rfl, .inl ⟨rfl, _, SqL.of hA3⟩, _, rfl, r, dr, _, rfl, hR3.me, rfl, r, dr, l, linesT TT, 1 + j, markS, [k], rfl, hR3, hk0, hls, (fun z hz => by rw [List.mem_singleton.mp hz]; exact (cnS_ok _ (hmk _ (List.mem_of_getElem? hk))).2.2), fun L H4 rx4 hR4 hHL nL hL => ?_⟩
      refine ⟨A, L, _, _, rfl, rfl, rx4.at hA3 nA, hL, le_line (by simp; omega), ?_⟩
      refine ⟨rx_mut (rx3.trans rx4) hHA nA, hR.keep (rx_mut (rx3.trans rx4) hHA nA) ((upd_ne (Ne.symm nA)).trans hR4.me), ?_, (upd_ne (Ne.symm nAB)).trans (rx4.at hB3 nB), (upd_ne (Ne.symm nAC)).trans (rx4.at hC3 nC), rfl⟩
      rw [upd_same, List.take_succ, hk, List.map_append]
      rfl
    obtain rfl : j = TT.marks.length := by omega
    rw [List.drop_length, List.map_nil, List.nil_append] at hd
    refine ifF (by rw [firstW_drop hd]; exact decide_eq_false fun e => fw_f (V.str.inj e)) ?_
    rw [List.take_length] at hA3
    -- fields
    refine ⟨fun n σ H' => ∃ j fx, n = TT.fields.length - j ∧ j ≤ TT.fields.length ∧ Rx r H H' ∧ RdAt (RA K) dr l H' r (linesT TT) (1 + TT.marks.length + j) ∧ H' A = some (.lst (TT.marks.map V.str)) ∧ H' B = some (.lst fx) ∧ DqAll (rm r H') fx ((TT.fields.take j).map fldD) ∧ H' C = some (.lst []) ∧ σ = [some (.ref r), some (.str TT.name), some (.str TT.above), some (.ref A), some (.ref B), some (.ref C)],
      ⟨TT.fields.length, 0, [], rfl, Nat.zero_le _, rx3, hR3, hA3, hB3, .nil, hC3, rfl⟩, ?_⟩
    clear hd hj hlt rx3 hR3 hA3 hB3 hC3
    rintro n σ H3 ⟨j, fx, rfl, hj, rx3, hR3, hA3, hB3, hall3, hC3, rfl⟩
    refine ⟨_, rfl, r, dr, _, rfl, hR3.me, rfl, r, dr, l, linesT TT, _, rfl, hR3, hls, rfl, _, rfl, ?_⟩
    have hd := d2 TT hj
    have hnof : ∀ i, noLs ((TT.fields.take i).map fldD) = true := fun i => noLs_of fun d hd => by obtain ⟨q, _, rfl⟩ := List.mem_map.mp hd; rfl
    by_cases hlt : j < TT.fields.length
    · obtain ⟨q, hk⟩ : ∃ q, TT.fields[j]? = some q := ⟨_, List.getElem?_eq_getElem hlt⟩
      have hdj : TT.fields.drop j = q :: TT.fields.drop (j + 1) := by
        rw [List.drop_eq_getElem_cons hlt]
        rw [List.getElem?_eq_getElem hlt] at hk
        rw [Option.some.inj hk]
      rw [hdj] at hd
      have hfw : firstW (linesT TT) (1 + TT.marks.length + j) = fieldS := by rw [firstW_drop hd]; rfl
      have hqm := List.mem_of_getElem? hk
      refine ifT (by rw [hfw]; decide +kernel) ?_
      refine ⟨fun σ' H' => ∃ fx, Rx r H H' ∧ RdAt (RA K) dr l H' r (linesT TT) (1 + TT.marks.length + (j + 1)) ∧ H' A = some (.lst (TT.marks.map V.str)) ∧ H' B = some (.lst fx) ∧ DqAll (rm r H') fx ((TT.fields.take (j + 1)).map fldD) ∧ H' C = some (.lst []) ∧ σ' = [some (.ref r), some (.str TT.name), some (.str TT.above), some (.ref A), some (.ref B), some (.ref C)],
        fun σ' H' ⟨fx, a1, a2, a3, a4, a5, a6, a7⟩ => ⟨TT.fields.length - (j + 1), by omega, j + 1, fx, rfl, hlt, a1, a2, a3, a4, a5, a6, a7⟩, ?_⟩
      have hk0 : (linesT TT)[1 + TT.marks.length + j]? = some [fieldS, q.1, q.2] := by rw [drop_get0 hd]; rfl
      have hxl : fx.length = j := by rw [hall3.length, List.length_map, List.length_take]; omega
      refine ⟨_, rfl, .inl ⟨rfl, _, SqL.of hB3⟩, _, rfl, r, dr, _, rfl, hR3.me, rfl, r, dr, l, linesT TT, _, fieldS, q.1, q.2, rfl, hR3, hk0, hls, hfk _ (List.mem_map.mpr ⟨q, hqm, rfl⟩), hT.f.2 q hqm, fun t H4 rx4 hR4 hHt nt ht => ?_⟩
      have hB4 := rx4.at hB3 nB
      refine ⟨B, fx, _, rfl, rfl, hB4, Nat.lt_of_lt_of_le (show fx.length < 1000 by omega) (le_line (Nat.le_refl _)), ?_⟩
      refine ⟨fx ++ [.ref t], rx_mut (rx3.trans rx4) hHB nB, hR.keep (rx_mut (rx3.trans rx4) hHB nB) ((upd_ne (Ne.symm nB)).trans hR4.me), (upd_ne nAB).trans (rx4.at hA3 nA), upd_same, ?_, (upd_ne (Ne.symm nBC)).trans (rx4.at hC3 nC), rfl⟩
      rw [List.take_succ, hk, List.map_append]
      refine DqAll.app (DzAll.mutD hB4 nB (DqAll.ext rx4 hall3) (hnof j)) (DzAll.mutD hB4 nB (ds := [fldD q]) (.cons ?_ .nil) rfl)
      exact .tup (by rw [rm_ne nt]; exact ht) (.cons (.str _) (.cons (.str _) .nil))
    obtain rfl : j = TT.fields.length := by omega
    rw [List.drop_length, List.map_nil, List.nil_append] at hd
    refine ifF (by rw [firstW_drop hd]; exact decide_eq_false fun e => fw_m (V.str.inj e)) ?_
    have hnof1 := hnof TT.fields.length
    rw [List.take_length] at hall3 hnof1
    -- methods
    refine ⟨fun n σ H' => ∃ j k mx, n = TT.meths.length - j ∧ j ≤ TT.meths.length ∧ (linesT TT).drop k = (TT.meths.drop j).flatMap linesM ∧ Rx r H H' ∧ RdAt (RA K) dr l H' r (linesT TT) k ∧ H' A = some (.lst (TT.marks.map V.str)) ∧ H' B = some (.lst fx) ∧ DqAll (rm r H') fx (TT.fields.map fldD) ∧ H' C = some (.lst mx) ∧ All2 (MdX r C H') mx (TT.meths.take j) ∧ σ = [some (.ref r), some (.str TT.name), some (.str TT.above), some (.ref A), some (.ref B), some (.ref C)],
      ⟨TT.meths.length, 0, _, [], rfl, Nat.zero_le _, hd, rx3, hR3, hA3, hB3, hall3, hC3, .nil, rfl⟩, ?_⟩
    clear hd hj hlt rx3 hR3 hA3 hB3 hC3 hall3
    rintro n σ H3 ⟨j, k, mx, rfl, hj, hd, rx3, hR3, hA3, hB3, hall3, hC3, hms3, rfl⟩
    refine ⟨_, rfl, r, dr, _, rfl, hR3.me, rfl, r, dr, l, linesT TT, _, rfl, hR3, hls, rfl, _, rfl, ?_⟩
    by_cases hlt : j < TT.meths.length
    · obtain ⟨m, hk⟩ : ∃ m, TT.meths[j]? = some m := ⟨_, List.getElem?_eq_getElem hlt⟩
      have hdj : TT.meths.drop j = m :: TT.meths.drop (j + 1) := by
        rw [List.drop_eq_getElem_cons hlt]
        rw [List.getElem?_eq_getElem hlt] at hk
        rw [Option.some.inj hk]
      rw [hdj, List.flatMap_cons] at hd
      have hfw : firstW (linesT TT) k = methS := by rw [firstW_drop hd]; rfl
      have hmm := List.mem_of_getElem? hk
      have hmp := hT.ms.2 m hmm
      refine ifT (by rw [hfw]; decide +kernel) ?_
      refine ⟨fun σ' H' => ∃ k mx, (linesT TT).drop k = (TT.meths.drop (j + 1)).flatMap linesM ∧ Rx r H H' ∧ RdAt (RA K) dr l H' r (linesT TT) k ∧ H' A = some (.lst (TT.marks.map V.str)) ∧ H' B = some (.lst fx) ∧ DqAll (rm r H') fx (TT.fields.map fldD) ∧ H' C = some (.lst mx) ∧ All2 (MdX r C H') mx (TT.meths.take (j + 1)) ∧ σ' = [some (.ref r), some (.str TT.name), some (.str TT.above), some (.ref A), some (.ref B), some (.ref C)],
        fun σ' H' ⟨k, mx, a0, a1, a2, a3, a4, a5, a6, a7, a8⟩ => ⟨TT.meths.length - (j + 1), by omega, j + 1, k, mx, rfl, hlt, a0, a1, a2, a3, a4, a5, a6, a7, a8⟩, ?_⟩
      have hxl : mx.length = j := by rw [hms3.length, List.length_take]; omega
      refine ⟨_, rfl, .inl ⟨rfl, _, SqL.of hC3⟩, _, rfl, r, dr, _, rfl, hR3.me, rfl, r, dr, l, linesT TT, k, m, rfl, hR3, hls, hmp, name_ok hT hmm, lnM_of hd, fun v H4 rx4 hR4 hmd => ?_⟩
      have hC4 := rx4.at hC3 nC
      refine ⟨C, mx, _, rfl, rfl, hC4, Nat.lt_of_lt_of_le (show mx.length < 1000 by omega) (le_line (Nat.le_refl _)), ?_⟩
      refine ⟨k + (m.code.length + 2), mx ++ [v], ?_, rx_mut (rx3.trans rx4) hHC nC, hR.keep (rx_mut (rx3.trans rx4) hHC nC) ((upd_ne (Ne.symm nC)).trans hR4.me), (upd_ne nAC).trans (rx4.at hA3 nA), (upd_ne nBC).trans (rx4.at hB3 nB), DzAll.mutD hC4 nC (DqAll.ext rx4 hall3) hnof1, upd_same, ?_, rfl⟩
      · rw [← List.drop_drop, hd, ← linesM_length, List.drop_left]
      · rw [List.take_succ, hk]
        refine All2.app ?_ (.cons ((hmd C (by rw [hC3]; exact fun z => nomatch z) nC).mut hC4 nC hmp.okc.2) .nil)
        exact hms3.impM fun x mm hm' q => (q.rx rx4).mut hC4 nC (hT.ms.2 mm (List.mem_of_mem_take hm')).okc.2
    obtain rfl : j = TT.meths.length := by omega
    rw [List.drop_length, List.flatMap_nil] at hd
    rw [List.take_length] at hms3
    have hfw : firstW (linesT TT) k = Str.empty := by rw [firstW_drop hd]; rfl
    refine ifF (by rw [hfw]; exact decide_eq_false fun e => sg_ne.2.2 (V.str.inj e)) ?_
    obtain ⟨xs, h1, h2, h3⟩ := id hR3
    have hxl : xs.length = (linesT TT).length := by rw [h3.length, List.length_map]
    have hge : (linesT TT).length ≤ k := by
      have := congrArg List.length hd
      simp at this
      omega
    refine ⟨_, rfl, r, _, dr, _, _, rfl, h1, R.cl, R.n2, rfl, _, rfl, r, _, dr, _, _, rfl, h1, R.cl, R.n1, rfl, _, _, rfl, .inl ⟨_, SqL.of h2, rfl⟩, _, _, rfl, rfl, _, rfl, ?_⟩
    refine ifF (decide_eq_false (by omega)) ?_
    refine ⟨_, rfl, _, rfl, _, rfl, _, rfl, _, rfl, le_line (by simp), fun a ha => ?_⟩
    have e5 := Evl.Ex.new (o := .lst [.str TT.name, .str TT.above, .ref A, .ref B, .ref C]) ha
    refine hQ a A B C fx mx _ upd_same (e5 _ _ hA3) (e5 _ _ hB3) ?_ (e5 _ _ hC3) (hms3.imp fun _ _ q => q.rx (ex_rx e5)) (rx3.trans (ex_rx e5))
    exact DqAll.ext (fun a o q => by
      have n1 := rm_ne_of q
      rw [rm_ne n1] at q
      exact e5 _ _ q) hall3
end
end K50

set_option Elab.async false
set_option linter.all false
set_option maxRecDepth 100000
set_option maxHeartbeats 0
/-! class texts parsed -/
namespace EX2
open PySem PySem.Spec PyProof.Rows L2
theorem wipe_get (σ : L2.St) (i : Nat) : ∀ vs : List Nat, (wipe σ vs)[i]? = if i ∈ vs then (σ[i]?).map (fun _ => none) else σ[i]?
  | [] => by simp [wipe]
  | v :: vs => by
    unfold wipe
    rw [List.getElem?_set, wipe_length]
    by_cases h : v = i
    · subst h
      rw [if_pos rfl, if_pos (List.mem_cons_self ..)]
      by_cases hl : v < σ.length
      · rw [if_pos hl, List.getElem?_eq_getElem hl]; rfl
      · rw [if_neg hl, List.getElem?_eq_none (by omega)]; rfl
    · rw [if_neg h, wipe_get σ i vs]
      have : (i ∈ v :: vs) ↔ i ∈ vs := by simp [Ne.symm h]
      by_cases hm : i ∈ vs
      · rw [if_pos hm, if_pos (this.mpr hm)]
      · rw [if_neg hm, if_neg (fun q => hm (this.mp q))]
theorem wipe_set {σ : L2.St} {vs : List Nat} {v : Nat} {x : Option V} (h : v ∈ vs) : wipe (σ.set v x) vs = wipe σ vs := by
  refine List.ext_getElem? fun i => ?_
  rw [wipe_get, wipe_get]
  by_cases hm : i ∈ vs
  · rw [if_pos hm, if_pos hm, List.getElem?_set]
    by_cases e : v = i
    · subst e
      rw [if_pos rfl]
      by_cases hl : v < σ.length
      · rw [if_pos hl, List.getElem?_eq_getElem hl]; rfl
      · rw [if_neg hl, List.getElem?_eq_none (by omega)]
    · rw [if_neg e]
  · rw [if_neg hm, if_neg hm, List.getElem?_set, if_neg (by rintro rfl; exact hm h)]
theorem wipe_wipe {σ : L2.St} {vs : List Nat} : wipe (wipe σ vs) vs = wipe σ vs := by
  refine List.ext_getElem? fun i => ?_
  rw [wipe_get, wipe_get]
  by_cases hm : i ∈ vs
  · rw [if_pos hm, if_pos hm]
    cases σ[i]? <;> rfl
  · rw [if_neg hm, if_neg hm]
theorem tYes_ok {σ : L2.St} {H : Hp} {A B : Hp → Prop} (h : A H) : tYes σ H fun b H3 => if b = true then A H3 else B H3 := by
  show if true = true then A H else B H
  rw [if_pos rfl]
  exact h
theorem get7 {σ : L2.St} {a b c d e : Nat} {x1 x2 x3 x4 x5 : Option V} (hl : a < σ.length) (h : b ≠ a ∧ c ≠ a ∧ d ≠ a ∧ e ≠ a) : (((((σ.set a x1).set b x2).set c x3).set d x4).set e x5)[a]? = some x1 := by
  rw [List.getElem?_set_ne h.2.2.2, List.getElem?_set_ne h.2.2.1, List.getElem?_set_ne h.2.1, List.getElem?_set_ne h.1, List.getElem?_set_self hl]
theorem get8 {σ : L2.St} {b c d e : Nat} {x2 x3 x4 x5 : Option V} (hl : b < σ.length) (h : c ≠ b ∧ d ≠ b ∧ e ≠ b) : ((((σ.set b x2).set c x3).set d x4).set e x5)[b]? = some x2 := by
  rw [List.getElem?_set_ne h.2.2, List.getElem?_set_ne h.2.1, List.getElem?_set_ne h.1, List.getElem?_set_self hl]
theorem get9 {σ : L2.St} {c d e : Nat} {x3 x4 x5 : Option V} (hl : c < σ.length) (h : d ≠ c ∧ e ≠ c) : (((σ.set c x3).set d x4).set e x5)[c]? = some x3 := by
  rw [List.getElem?_set_ne h.2, List.getElem?_set_ne h.1, List.getElem?_set_self hl]
theorem get10 {σ : L2.St} {d e : Nat} {x4 x5 : Option V} (hl : d < σ.length) (h : e ≠ d) : ((σ.set d x4).set e x5)[d]? = some x4 := by
  rw [List.getElem?_set_ne h, List.getElem?_set_self hl]
theorem wip5 {σ : L2.St} {vs : List Nat} {a b c d e : Nat} {x1 x2 x3 x4 x5 : Option V} (ha : a ∈ vs) (hb : b ∈ vs) (hc : c ∈ vs) (hd : d ∈ vs) (he : e ∈ vs) :
    wipe ((((((wipe σ vs).set a x1).set b x2).set c x3).set d x4).set e x5) vs = wipe σ vs := by
  rw [wipe_set he, wipe_set hd, wipe_set hc, wipe_set hb, wipe_set ha, wipe_wipe]
end EX2
namespace K50
open PySem PySem.Spec PyProof.Rows L2 EX2 TX StX
def Fr (z : Str) : Prop := 32 ∉ TL.tl z ∧ 10 ∉ TL.tl z
theorem nmS_fr : ∀ z ∈ nmS, 32 ∉ TL.tl z ∧ 10 ∉ TL.tl z := by decide +kernel
theorem fS_fr : ∀ z ∈ fS, 32 ∉ TL.tl z ∧ 10 ∉ TL.tl z := by decide +kernel
theorem kw_fr : ∀ z ∈ [classS, markS, fieldS, methS, endS, dashS], 32 ∉ TL.tl z ∧ 10 ∉ TL.tl z := by decide +kernel
theorem forms_fr : ∀ p ∈ K50.forms, 32 ∉ TL.tl p.1 ∧ 10 ∉ TL.tl p.1 := by decide +kernel
theorem joinL_mem {S : List Nat} {c : Nat} (hS : c ∉ S) : ∀ {ps : List (List Nat)}, (∀ p ∈ ps, c ∉ p) → c ∉ TL.joinL S ps
  | [], _ => fun h => nomatch h
  | [p], h => h p List.mem_cons_self
  | p :: q :: r, h => fun hm => by
    rcases List.mem_append.mp (show c ∈ p ++ (S ++ TL.joinL S (q :: r)) from hm) with hm | hm
    · exact h p List.mem_cons_self hm
    rcases List.mem_append.mp hm with hm | hm
    · exact hS hm
    · exact joinL_mem hS (fun x hx => h x (List.mem_cons_of_mem _ hx)) hm
theorem join_fr {sep : Str} {ps : List Str} {c : Nat} (hS : c ∉ TL.tl sep) (h : ∀ p ∈ ps, c ∉ TL.tl p) : c ∉ TL.tl (Txt.join sep ps) := by
  rw [TL.join_eq, TL.tl_join]
  exact joinL_mem hS fun p hp => by
    obtain ⟨q, hq, rfl⟩ := List.mem_map.mp hp
    exact h q hq
theorem it_fr {n c : Nat} {d : PyData} (hn : n ≤ 40) (h : It n c d) : 32 ∉ TL.tl (wordOf d) ∧ 10 ∉ TL.tl (wordOf d) := by
  cases h with
  | r i h => exact (nS_sgn i (List.mem_range.mpr (by omega))).1.2
  | n i h => exact (nS_sgn i (List.mem_range.mpr (by omega))).1.2
  | j i h => exact (nS_sgn i (List.mem_range.mpr (by omega))).1.2
  | c z h => exact nmS_fr z h
  | f z h => exact fS_fr z h
  | t z h => exact (kS_sgn z h).1.2
  | y zs l h =>
    by_cases h0 : zs.map PyData.str = []
    · rw [h0]; exact kw_fr dashS (by simp)
    · rw [dash0 h0]
      have hp : ∀ e ∈ zs.map PyData.str, PartP e := fun e he => by obtain ⟨z, hz, rfl⟩ := List.mem_map.mp he; exact .inl ⟨z, h z hz, rfl⟩
      exact ⟨join_fr (by decide +kernel) fun p hq => by obtain ⟨e, he, rfl⟩ := List.mem_map.mp hq; exact (part_sgn (hp e he)).1.2.1, join_fr (by decide +kernel) fun p hq => by obtain ⟨e, he, rfl⟩ := List.mem_map.mp hq; exact (part_sgn (hp e he)).1.2.2⟩
  | x is l h =>
    by_cases h0 : is.map iD = []
    · rw [h0]; exact kw_fr dashS (by simp)
    · rw [dash0 h0]
      have hp : ∀ e ∈ is.map iD, PartP e := fun e he => by obtain ⟨z, hz, rfl⟩ := List.mem_map.mp he; exact .inr ⟨z, by have := h z hz; omega, rfl⟩
      exact ⟨join_fr (by decide +kernel) fun p hq => by obtain ⟨e, he, rfl⟩ := List.mem_map.mp hq; exact (part_sgn (hp e he)).1.2.1, join_fr (by decide +kernel) fun p hq => by obtain ⟨e, he, rfl⟩ := List.mem_map.mp hq; exact (part_sgn (hp e he)).1.2.2⟩
theorem insW_fr {n : Nat} {d : PyData} (hn : n ≤ 40) (h : InD n d) : ∀ z ∈ insW d, 32 ∉ TL.tl z ∧ 10 ∉ TL.tl z := by
  obtain ⟨z, fm, ds, rfl, q⟩ := h
  intro y hy
  obtain ⟨e, he, rfl⟩ := List.mem_map.mp hy
  rcases List.mem_cons.mp (show e ∈ .str z :: ds from he) with rfl | he
  · exact forms_fr _ q.mem
  · obtain ⟨c, hit⟩ := q.its.all e he
    exact it_fr hn hit
theorem linesT_fr {T : Tx} (hT : TxP T) : ∀ ws ∈ linesT T, ∀ z ∈ ws, 32 ∉ TL.tl z ∧ 10 ∉ TL.tl z := by
  intro ws hw z hz
  rw [linesT_eq] at hw
  have m1 := mkU_ok _ hT.m
  have f1 := fnU_ok _ hT.f.1
  rcases List.mem_cons.mp hw with rfl | hw
  · simp only [List.mem_cons, List.not_mem_nil, or_false] at hz
    rcases hz with rfl | rfl | rfl
    · exact kw_fr _ (by simp)
    · exact nmS_fr _ (cnS_ok _ hT.n).2.2
    · exact nmS_fr _ hT.a
  rcases List.mem_append.mp hw with hw | hw
  · obtain ⟨k, hk, rfl⟩ := List.mem_map.mp hw
    simp only [List.mem_cons, List.not_mem_nil, or_false] at hz
    rcases hz with rfl | rfl
    · exact kw_fr _ (by simp)
    · exact nmS_fr _ (cnS_ok _ (m1.2.2 _ hk)).2.2
  rcases List.mem_append.mp hw with hw | hw
  · obtain ⟨q, hq, rfl⟩ := List.mem_map.mp hw
    simp only [List.mem_cons, List.not_mem_nil, or_false] at hz
    rcases hz with rfl | rfl | rfl
    · exact kw_fr _ (by simp)
    · exact fS_fr _ (f1.2.2 _ (List.mem_map.mpr ⟨q, hq, rfl⟩))
    · exact (kS_sgn _ (hT.f.2 q hq)).1.2
  · obtain ⟨m, hm, hw⟩ := List.mem_flatMap.mp hw
    have hmp := hT.ms.2 m hm
    have c1 := hmp.cd.c1
    rcases List.mem_append.mp (show ws ∈ (headW m :: m.code.map insW) ++ [[endS]] from hw) with hw | hw
    · rcases List.mem_cons.mp hw with rfl | hw
      · simp only [headW, List.mem_cons] at hz
        rcases hz with rfl | rfl | rfl | rfl | hz
        · exact kw_fr _ (by simp)
        · exact fS_fr _ (name_ok hT hm)
        · exact (nS_sgn _ (List.mem_range.mpr (by rcases hmp.sz with e | e <;> omega))).1.2
        · exact (kS_sgn _ hmp.kr).1.2
        · exact (kS_sgn _ (hmp.kp z hz)).1.2
      · obtain ⟨d, hd, rfl⟩ := List.mem_map.mp hw
        exact insW_fr (by omega) (hmp.cd.ci d hd) z hz
    · rw [List.mem_singleton.mp hw, List.mem_singleton] at hz
      rw [hz]
      exact kw_fr _ (by simp)
theorem nl_tl : TL.tl nlS = [10] := by decide +kernel
theorem nl_k : nlS.cps.all (· < 256) = true := by decide +kernel
theorem text_split {T : Tx} (hT : TxP T) : Txt.split (textT T) nlS = (linesT T).map joinS := by
  refine split_join nl_tl nl_k (by rw [linesT_eq]; exact fun e => nomatch e) fun p hp => ?_
  obtain ⟨ws, hw, rfl⟩ := List.mem_map.mp hp
  exact join_fr (by decide +kernel) fun z hz => (linesT_fr hT ws hw z hz).2
theorem text_len {T : Tx} (hT : TxP T) : (textT T).length ≤ 49049 := by
  have hok := linesT_ok hT
  exact join_len (n := 49) (B := 1000) (by rw [List.length_map]; exact hok.1) (fun z hz => by obtain ⟨ws, hw, rfl⟩ := List.mem_map.mp hz; exact line_len (hok.2 ws hw)) nlS_len
theorem MtAt.mut {C : Addr} {H : Hp} {v : V} {m : Mt} {D : Addr} {l : List V} {o : HO} (h : MtAt C H v m) (hD : H D = some (.lst l)) (hn : noLs m.code = true) : MtAt C (upd H D o) v m := by
  obtain ⟨x, dx, p, c, h1, h2, h3, h4⟩ := h
  refine ⟨x, dx, p, c, h1, (upd_ne (ne_of h2 hD (fun z => nomatch z))).trans h2, Dq.mutD hD h3 (noLs_of fun d hd => by obtain ⟨z, _, rfl⟩ := List.mem_map.mp hd; rfl), Dq.mutD hD h4 hn⟩
/-- the parts of a method that is read or drawn: lists -/
theorem parts_of {H : Hp} {m : Mt} {p c : V} (hm : MtP m) (hn : m.name ∈ fS) (hp : Dq H p (.list (m.params.map .str)) ∨ Dq H p (.tuple (m.params.map .str))) (hc : Dq H c (.list m.code)) :
    ∃ dp, itemsOf dp = m.params.map .str ∧ PartsOk H (.str m.name) p (.str m.result) (.int m.size) c (.str m.name) dp (.str m.result) m.size (.list m.code) := by
  have np := hm.np
  have no := fS_ok _ hn
  have ro := kS_ok _ hm.kr
  have mk : ∀ dp, itemsOf dp = m.params.map .str → seqD 4 dp = true → okD dp = true → Dq H p dp → PartsOk H (.str m.name) p (.str m.result) (.int m.size) c (.str m.name) dp (.str m.result) m.size (.list m.code) := fun dp e1 e2 e3 e4 =>
    { hn := .str _, hp := e4, hr := .str _, hz := rfl, hc := hc, on := okz no.2, op := e3, or := okz ro.2, oc := hm.okc.1, kn := no.1, kp := e2,
      kt := by rw [e1, List.all_map, List.all_eq_true]; exact fun z hz => (kS_ok z (hm.kp z hz)).1
      kr := ro.1
      kz := by rw [e1, List.length_map, inR_int]; rcases hm.sz with e | e <;> rw [e] <;> simp <;> omega
      kc := hm.kc }
  rcases hp with hp | hp
  · exact ⟨_, rfl, mk (.list (m.params.map .str)) rfl (show decide (((m.params.map PyData.str).length : Int) ≤ 4) = true from decide_eq_true (by rw [List.length_map]; omega)) (strs_ok hm.kp).1 hp⟩
  · exact ⟨_, rfl, mk (.tuple (m.params.map .str)) rfl (show decide (((m.params.map PyData.str).length : Int) ≤ 4) = true from decide_eq_true (by rw [List.length_map]; omega)) (strs_ok hm.kp).1 hp⟩
def spPC (CT CM : Addr) : Sp := fun vs H Q _ => ∃ T : Tx, vs = [.str (textT T)] ∧ TxP T ∧ ∀ v H', Evl.Ex H H' → TxAt CT CM H' v T → Q v H'
abbrev ctKw (K : PySem.W.Frag) : List (Str × V) := [("above", .str "top"), ("marks", .ref (kdAt "marks" K)), ("fields", .ref (kdAt "fields" K)), ("methods", .ref (kdAt "methods" K))]
theorem kb4 {K : PySem.W.Frag} {f : Addr} {fd : FuncData} (F : FunD K "__init__" "ClassText.__init__" (defArgs (inClass (top 33) 0)) (defBody (inClass (top 33) 0)) (defScope (inClass (top 33) 0)) [] (ctKw K) f fd) :
    ∃ mv : List Value, KBn K fd ["self", "name", "above", "marks", "fields", "methods"] 2 ["above", "marks", "fields", "methods"] (fun us ws => us ++ ws) (fun vs zs => vs ++ zs) :=
  FunD.kbinds0 F 2 ["above", "marks", "fields", "methods"] [] (fun us mv ws => us ++ ws) (by simp) (by simp) (fun r1 _ r3 => r1.append r3)
    fun D doc pm an cdv ct us mv ws h1 h2 h3 => match us, mv, ws, h1, h2, h3 with | [_, _], [], [_, _, _, _], _, _, _ => rfl
section
variable {P : Program} {w : World} {K : PySem.W.Frag} {mg : Str → Option Value} {base : Heap} {f : Addr} {fd : FuncData}
abbrev sparse_class : Stmt := top 44
abbrev nparse_class : List Str := ["text", "name", "above", "marks", "fields", "parts", "methods", "own", "params", "result", "size", "code"]
theorem scparse_class : FnScope nparse_class ["text"] (defScope sparse_class) := ⟨rfl, rfl, rfl, by decide +kernel, rfl, by decide +kernel, by decide +kernel⟩
theorem okparse_class (F : FnP K "parse_class" sparse_class f fd) (D : FD w K mg) (R : RdF K mg) (M : MethF K mg) (XF : ExcF P w K mg base) (IF : InsF K (He.ga K "Method")) (GF : GetF P w K mg base) (C : CtF K mg) : FnOk P w K mg base CX0 9 f fd ["text"] (spPC (He.ga K "ClassText") (He.ga K "Method")) := by
  have T := D.t
  obtain ⟨fdI, FI⟩ := M.init
  have GI : FnOk P w K mg base (L2.CX P w) 6 _ fdI ["self", "name", "params", "result", "size", "code"] (spInit (He.ga K "Method")) := (ok_initX FI D.cd.dd.d M XF).imp spInit_X
  have bI : Binds K fdI ["self", "name", "params", "result", "size", "code"] [] := FI.bindsN fun _ _ _ _ _ _ us hl => match us, hl with | [_, _, _, _, _, _], _ => rfl
  obtain ⟨fdT, FT⟩ := C.init
  have GT := okClassText___init__ (P := P) (w := w) (base := base) FT D.cd M IF GF.m1 C
  obtain ⟨mv, kb⟩ := kb4 FT
  obtain ⟨fdm___init__, Fm___init__⟩ := R.f___init__
  have Gm___init__ := okClassReader___init__ (P := P) (base := base) (w := w) Fm___init__ D R
  have bm___init__ : Binds K fdm___init__ ["self", "lines"] [] := FunD.bindsN Fm___init__ fun _ _ _ _ _ _ us hl => match us, hl with | [_, _], _ => rfl
  obtain ⟨fdm_read_all, Fm_read_all⟩ := R.f_read_all
  have Gm_read_all := okClassReader_read_all (P := P) (base := base) (w := w) Fm_read_all D R
  have bm_read_all : Binds K fdm_read_all ["self"] [] := FunD.bindsN Fm_read_all fun _ _ _ _ _ _ us hl => match us, hl with | [_], _ => rfl
  refine F.ok scparse_class (fun vs H Q E h => ?_) (fun cdv A outer s H vs Q E hr h => ?_)
  · obtain ⟨T', rfl, _⟩ := h
    rfl
  · obtain ⟨TT, rfl, hT, hQ⟩ := h
    refine ⟨_, PSs.nox (pss_cons (ps_if (pt_not (pt_val (pe_callB call_isi rfl T.isi boot_isi (pa_cons (pv 0) (pa_cons (pe_bltn rfl T.str boot_str (v := .ty "str") rfl) pa_nil)))))
        pss_no
        pss_nil)
      (pss_cons (ps_asg (pe_meth0 (pe_make R.mkr Gm___init__ (hr.mono (by decide)) rfl R.hm bm___init__ .nil pass0 (pa_cons (pe_split (pv 0) pe_str) pa_nil)) R.cl R.m_read_all Gm_read_all (hr.mono (by decide)) bm_read_all .nil pass0) (pg_lst rfl (pgs_cons (pg_name (i := 1) scparse_class.nd rfl (Or.inl rfl)) (pgs_cons (pg_name (i := 2) scparse_class.nd rfl (Or.inl rfl)) (pgs_cons (pg_name (i := 3) scparse_class.nd rfl (Or.inl rfl)) (pgs_cons (pg_name (i := 4) scparse_class.nd rfl (Or.inl rfl)) (pgs_cons (pg_name (i := 5) scparse_class.nd rfl (Or.inl rfl)) pgs_nil)))))))
      (pss_cons (ps_setLc (i := 6) (own := [("own", 7), ("params", 8), ("result", 9), ("size", 10), ("code", 11)]) (g := gLst K 5 (gCons (gName 7) (gCons (gName 8) (gCons (gName 9) (gCons (gName 10) (gCons (gName 11) gNil)))))) (tt := tYes) rfl scparse_class.nd rfl rfl (sw_true rfl rfl rfl (by decide +kernel)) (pi_list (pv 5)) (blkOk_by (N := nparse_class) (sc := defScope sparse_class) (by decide +kernel)) (fun _ _ _ _ _ => (pg_lst rfl (pgs_cons (pg_name (i := 7) scparse_class.nd rfl (Or.inl rfl)) (pgs_cons (pg_name (i := 8) scparse_class.nd rfl (Or.inl rfl)) (pgs_cons (pg_name (i := 9) scparse_class.nd rfl (Or.inl rfl)) (pgs_cons (pg_name (i := 10) scparse_class.nd rfl (Or.inl rfl)) (pgs_cons (pg_name (i := 11) scparse_class.nd rfl (Or.inl rfl)) pgs_nil))))))) (fun _ _ _ _ _ => pts_nil) (fun _ _ _ _ _ => (pe_make M.mkr GI (hr.mono (by decide)) rfl M.hm bI .nil passL (pa_cons (pv 7) (pa_cons (pv 8) (pa_cons (pv 9) (pa_cons (pv 10) (pa_cons (pv 11) pa_nil))))))))
      (pss_one (ps_ret (pe_makeK (n := 1) C.mkr GT (hr.mono (by decide)) rfl C.hm kb pass0 (pa_cons (pv 1) pa_nil) (pk_cons (pv 2) (pk_cons (pv 3) (pk_cons (pv 4) (pk_cons (pv 6) pk_nil)))))))))), ?_⟩
    refine ⟨_, rfl, _, _, _, _, true, rfl, .ty "str", .base (.str _), kit_ty kit_str, _, rfl, iteF ?_⟩
    have hls := linesT_lns hT
    have hok := linesT_ok hT
    have hle : (textT TT).length + 2 ≤ sizeLine := by
      have := text_len hT
      rw [sizeLine_eq]
      omega
    refine ⟨_, rfl, ⟨_, rfl⟩, textT TT, nlS, rfl, rfl, by decide +kernel, hle, fun l hl => ?_⟩
    rw [text_split hT]
    have e1 := Evl.Ex.new (o := .lst (((linesT TT).map joinS).map V.str)) hl
    have hls1 := upd_same (H := H) (a := l) (o := .lst (((linesT TT).map joinS).map V.str))
    generalize upd H l (.lst (((linesT TT).map joinS).map V.str)) = H1 at e1 hls1
    intro r dr hr hdr hne
    have e2 : Evl.Ex H1 (upd (upd H1 dr (.own r)) r (.ins (RA K) dr [])) := fun b o e => by
      rw [upd_ne (by rintro rfl; rw [hr] at e; cases e), upd_ne (by rintro rfl; rw [hdr] at e; cases e)]; exact e
    refine ⟨r, dr, l, linesT TT, rfl, upd_same, e2 _ _ hls1, hls, fun ws hw => ⟨line_len (hok.2 ws hw), fun z hz => (linesT_fr hT ws hw z hz).1⟩, fun H2 k2 l' hR => ⟨rfl, ?_⟩⟩
    have e02 : Evl.Ex H H2 := fun b o e => by
      have e' := e1 _ _ e
      refine k2 b o (by rintro rfl; rw [hr] at e'; cases e') (e2 _ _ e')
    have hrH : H r = none := ex_no e1 hr
    refine ⟨r, dr, _, rfl, hR.me, rfl, r, dr, l', TT, rfl, hR, hT, fun a mk fl me fx mx H3 ha hmk hfl hfx hme hmx rx3 => ?_⟩
    have e03 : Evl.Ex H H3 := fun b o e => rx3.at (e02 _ _ e) (by rintro rfl; rw [hrH] at e; cases e)
    refine ⟨a, _, rfl, SqL.of ha, rfl, _, _, rfl, _, _, rfl, _, _, rfl, _, _, rfl, _, _, rfl, rfl, ?_⟩
    have hml := hmx.length
    have hm2 := (mnU_ok _ hT.ms.1).1
    rw [List.length_map] at hm2
    refine ⟨_, rfl, me, rfl, ⟨_, SqL.of hme⟩, fun D hD => ?_⟩
    have hok2 : ∀ m ∈ TT.meths, noLs m.code = true := fun m hm => (hT.ms.2 m hm).okc.2
    refine lc_it (walk_list (K := K) (a := me) (xs := mx)) (fun j H' => Evl.Ex H3 H' ∧ ∃ xs, H' D = some (.lst xs) ∧ All2 (MtAt (He.ga K "Method") H') xs (TT.meths.take j)) ⟨Evl.Ex.new hD, [], upd_same, .nil⟩ (fun i H' _ q => SqL.of (q.1 _ _ hme)) ?_ ?_
    · rintro j v H4 H5 hj ⟨e4, xs, hD4, hxs⟩ ⟨rfl, hv⟩
      obtain ⟨m, hm, pa, pl, cl, cx, rfl, hpa, hpl, hcl, hcx, _, _⟩ := hmx.get hv
      have hmm := List.mem_of_getElem? hm
      have hmp := hT.ms.2 m hmm
      refine ⟨pa, _, rfl, SqL.of (e4 _ _ hpa), rfl, _, _, rfl, _, _, rfl, _, _, rfl, _, _, rfl, _, _, rfl, rfl, wip5 (by simp) (by simp) (by simp) (by simp) (by simp), ?_⟩
      refine tYes_ok ?_
      refine ⟨_, get7 (by simp [wipe_length, L2.start]) (by decide), _, get8 (by simp [wipe_length, L2.start]) (by decide), _, get9 (by simp [wipe_length, L2.start]) (by decide), _, get10 (by simp [wipe_length, L2.start]) (by decide), _, List.getElem?_set_self (by simp [wipe_length, L2.start]), fun x dx hx hdx hne => ?_⟩
      have e6 : Evl.Ex H5 (upd (upd H5 dx (.own x)) x (.ins (He.ga K "Method") dx [])) := fun b o e => by
        rw [upd_ne (by rintro rfl; rw [hx] at e; cases e), upd_ne (by rintro rfl; rw [hdx] at e; cases e)]; exact e
      have ee := e4.trans e6
      have hcx' : DqAll H3 cx m.code := DqAll.ext (fun a o q => by
        have n1 := rm_ne_of q
        rw [rm_ne n1] at q
        exact q) hcx
      obtain ⟨dp, hdp, hparts⟩ := parts_of (H := upd (upd H5 dx (.own x)) x (.ins (He.ga K "Method") dx [])) (p := .ref pl) (c := .ref cl) hmp (name_ok hT hmm) (.inl (.lst (ee _ _ hpl) (strs_dq _))) (.lst (ee _ _ hcl) (hcx'.ext ee))
      refine ⟨x, dx, _, _, _, _, _, _, dp, _, _, _, rfl, upd_same, hparts, fun H6 p' c' k6 hx6 hp6 hc6 => ⟨rfl, ?_⟩⟩
      have e56 : Evl.Ex H5 H6 := fun b o e => k6 b o (by rintro rfl; rw [hx] at e; cases e) (e6 _ _ e)
      have hD6 := e56 _ _ hD4
      have hxl : xs.length = j := by rw [hxs.length, List.length_take]; omega
      refine ⟨xs, hD6, Nat.lt_of_lt_of_le (show xs.length < 1000 by omega) (le_line (Nat.le_refl _)), (e4.trans e56).mut hD, xs ++ [.ref x], upd_same, ?_⟩
      rw [List.take_succ, hm]
      refine All2.app (hxs.impM fun u mm hmm' q => (q.ext e56).mut hD6 (hok2 mm (List.mem_of_mem_take hmm'))) (.cons (MtAt.mut ⟨x, dx, p', c', rfl, hx6, by rw [← hdp]; exact hp6, hc6⟩ hD6 (hok2 m hmm)) .nil)
    · rintro H4 ⟨e4, xs, hD4, hxs⟩
      rw [hml, List.take_length] at hxs
      refine ⟨_, rfl, _, rfl, _, rfl, _, rfl, _, rfl, rfl, rfl, fun x dx hx hdx hne => ?_⟩
      have e6 : Evl.Ex H4 (upd (upd H4 dx (.own x)) x (.ins (He.ga K "ClassText") dx [])) := fun b o e => by
        rw [upd_ne (by rintro rfl; rw [hx] at e; cases e), upd_ne (by rintro rfl; rw [hdx] at e; cases e)]; exact e
      have ee := e4.trans e6
      have hk2 := (mkU_ok _ hT.m).1
      have hf2 := (fnU_ok _ hT.f.1).1
      rw [List.length_map] at hf2
      refine ⟨x, dx, .ref mk, .ref fl, D, .list (TT.marks.map .str), .list (TT.fields.map fldD), xs, TT, rfl, upd_same, .lst (ee _ _ hmk) (strs_dq _), rfl, decide_eq_true (by rw [List.length_map]; omega), .lst (ee _ _ hfl) (hfx.ext ee), rfl, decide_eq_true (by rw [List.length_map]; omega), .inl (e6 _ _ hD4), hxs.imp (fun _ _ q => q.ext e6), hT, fun H7 k7 ht => ⟨rfl, ?_⟩⟩
      refine hQ _ _ (fun b o e => ?_) ht
      have e' := e4 _ _ (e03 _ _ e)
      exact k7 b o (by rintro rfl; rw [hx] at e'; cases e') (e6 _ _ e')
end
end K50

set_option Elab.async false
set_option linter.all false
set_option maxRecDepth 100000
set_option maxHeartbeats 0
/-! class texts drawn -/
namespace K50
open PySem PySem.Spec PyProof.Rows L2 EX2 TX StX
theorem make_lx {p x dx C : Addr} {H H' : Hp} (sc : Sc p H) (hx : H x = none) (hdx : H dx = none) (k : ∀ b o, b ≠ x → (upd (upd H dx (.own x)) x (.ins C dx [])) b = some o → H' b = some o) : Evl.Ex H H' ∧ x ≠ p := by
  refine ⟨fun b o e => ?_, sc.ne hx⟩
  have n : b ≠ x := by rintro rfl; rw [hx] at e; cases e
  have n2 : b ≠ dx := by rintro rfl; rw [hdx] at e; cases e
  exact k b o n (by rw [upd_ne n, upd_ne n2]; exact e)
theorem MtAt.rmP {CM p x dx : Addr} {H : Hp} {m : Mt} {p' c' : V} (sc : Sc p H) (n : x ≠ p) (hx : H x = some (.ins CM dx (mfields (.str m.name) p' (.str m.result) (.int m.size) c'))) (hp : Dq H p' (.tuple (m.params.map .str))) (hc : Dq H c' (.tuple m.code)) (hn : noLs m.code = true) : MtAt CM (rm p H) (.ref x) m := by
  obtain ⟨N, S, hs, _⟩ := sc
  exact ⟨x, dx, p', c', rfl, by rw [rm_ne n]; exact hx, dq_rmL' hs hp (noLs_of fun d hd => by obtain ⟨z, _, rfl⟩ := List.mem_map.mp hd; rfl), dq_rmL' hs hc hn⟩
/-- in a heap with the list at M changed -/
theorem MtAt.mutR {CM p M : Addr} {H : Hp} {v : V} {m : Mt} {l : List V} {o : HO} (h : MtAt CM (rm p H) v m) (hM : H M = some (.lst l)) (n : M ≠ p) (hn : noLs m.code = true) : MtAt CM (rm p (upd H M o)) v m := by
  rw [rm_upd n]
  exact h.mut (by rw [rm_ne n]; exact hM) hn
theorem dq_unrm {p : Addr} {H : Hp} {xs : List V} {ds : List PyData} (h : DqAll (rm p H) xs ds) : DqAll H xs ds := DqAll.ext (fun a o q => by
  have n1 := rm_ne_of q
  rw [rm_ne n1] at q
  exact q) h
theorem seq40 {cd : List PyData} (h : CodP cd) : seqD 40 (.list cd) = true := decide_eq_true (by have := h.c1; omega)
def fnI : Nat → List (List Str)
  | 0 => [[]]
  | 1 => [[], ["f"]]
  | _ => fnU
theorem fnI_0 : ∀ i ∈ List.range 2, ∀ zs ∈ fnI i, zs ∈ fnI (i + 1) ∧ (zs ++ [(["f", "g"] : List Str).getD i Str.empty]) ∈ fnI (i + 1) := by decide +kernel
def spClass (CT CM : Addr) : Sp := fun vs H Q _ => ∃ (p : Addr) (z : Str), vs = [.ref p, .str z] ∧ z ∈ cnS ∧ Sc p H ∧ ∀ v T H', Lx p H H' → TxAt CT CM H' v T → TxP T → Q v H'
section
variable {P : Program} {w : World} {K : PySem.W.Frag} {mg : Str → Option Value} {base : Heap} {f : Addr} {fd : FuncData}
abbrev s_law_class : Stmt := top 55
abbrev n_law_class : List Str := ["_law_source_here", "_law_name", "_law_high", "_law_usual", "_law_kinds", "_law_made", "_law_given", "_law_signs", "_law_field", "_law_kind_here"]
theorem sc_law_class : FnScope n_law_class ["_law_source_here", "_law_name"] (defScope s_law_class) := ⟨rfl, rfl, rfl, by decide +kernel, rfl, by decide +kernel, by decide +kernel⟩
theorem ok_law_class (F : FnP K "_law_class" s_law_class f fd) (D : DD w K mg) (DC : CD w K mg) (M : MethF K mg) (XF : ExcF P w K mg base) (IF : InsF K (He.ga K "Method")) (GF : GetF P w K mg base) (C : CtF K mg) : FnOk P w K mg base CX0 9 f fd ["_law_source_here", "_law_name"] (spClass (He.ga K "ClassText") (He.ga K "Method")) := by
  have T := D.t
  obtain ⟨fdI, FI⟩ := M.init
  have GI : FnOk P w K mg base (L2.CX P w) 6 _ fdI ["self", "name", "params", "result", "size", "code"] (spInit (He.ga K "Method")) := (ok_initX FI D.d M XF).imp spInit_X
  have bI : Binds K fdI ["self", "name", "params", "result", "size", "code"] [] := FI.bindsN fun _ _ _ _ _ _ us hl => match us, hl with | [_, _, _, _, _, _], _ => rfl
  obtain ⟨fdT, FT⟩ := C.init
  have GT := okClassText___init__ (P := P) (w := w) (base := base) FT DC M IF GF.m1 C
  obtain ⟨mv, kb⟩ := kb4 FT
  obtain ⟨f_law_pick, fd_law_pick, g_law_pick, F_law_pick⟩ := D._law_pick
  have G_law_pick := ok_law_pick (P := P) (base := base) F_law_pick D
  have b_law_pick : Binds K fd_law_pick ["_law_source_here", "_law_items"] [] := F_law_pick.bindsN fun _ _ _ _ _ _ us hl => match us, hl with | [_, _], _ => rfl
  obtain ⟨f_law_draw, fd_law_draw, g_law_draw, F_law_draw⟩ := D._law_draw
  have G_law_draw := ok_law_draw (P := P) (base := base) F_law_draw D
  have b_law_draw : Binds K fd_law_draw ["_law_source_here", "_law_amount"] [] := F_law_draw.bindsN fun _ _ _ _ _ _ us hl => match us, hl with | [_, _], _ => rfl
  obtain ⟨f_law_kind, fd_law_kind, g_law_kind, F_law_kind⟩ := D._law_kind
  have G_law_kind := ok_law_kind (P := P) (base := base) F_law_kind D
  have b_law_kind : Binds K fd_law_kind ["_law_source_here", "_law_usual"] [] := F_law_kind.bindsN fun _ _ _ _ _ _ us hl => match us, hl with | [_, _], _ => rfl
  obtain ⟨f_law_code, fd_law_code, g_law_code, F_law_code⟩ := D._law_code
  have G_law_code := ok_law_code (P := P) (base := base) F_law_code D
  have b_law_code : Binds K fd_law_code ["_law_source_here", "_law_owner", "_law_params", "_law_back"] [] := F_law_code.bindsN fun _ _ _ _ _ _ us hl => match us, hl with | [_, _, _, _], _ => rfl
  refine F.ok sc_law_class (fun vs H Q E h => ?_) (fun cdv A outer s H vs Q E hr h => ?_)
  · obtain ⟨p, z, rfl, _⟩ := h
    rfl
  · obtain ⟨p, z, rfl, hz, hs, hQ⟩ := h
    refine ⟨_, PSs.nox (pss_cons (ps_set (i := 2) sc_law_class.nd rfl (Or.inl rfl) (pe_call G_law_pick (hr.mono (by decide)) rfl g_law_pick F_law_pick.kp b_law_pick .nil pass0 (pa_cons (pv 0) (pa_cons (pe_lst (pa_cons pe_str (pa_cons pe_str (pa_cons pe_str (pa_cons pe_str (pa_cons pe_str (pa_cons pe_str pa_nil))))))) pa_nil))))
      (pss_cons (ps_set (i := 3) sc_law_class.nd rfl (Or.inl rfl) (pe_lst (pa_cons (pe_tup (pa_cons pe_str (pa_cons pe_str pa_nil))) (pa_cons (pe_tup (pa_cons pe_str (pa_cons pe_str pa_nil))) pa_nil))))
      (pss_cons (ps_setLc (i := 4) (own := [("_law_field", 8), ("_law_kind_here", 9)]) (g := gTup K 2 (gCons (gName 8) (gCons (gName 9) gNil))) rfl sc_law_class.nd rfl rfl (sw_true rfl rfl rfl (by decide +kernel)) (pi_list (pv 3)) (blkOk_by (N := n_law_class) (sc := defScope s_law_class) (by decide +kernel)) (fun _ _ _ _ _ => (pg_tup rfl (pgs_cons (pg_name (i := 8) sc_law_class.nd rfl (Or.inl rfl)) (pgs_cons (pg_name (i := 9) sc_law_class.nd rfl (Or.inl rfl)) pgs_nil)))) (fun _ _ _ _ _ => (pts_one (pt_cmpR op_eq (pe_call G_law_draw (hr.mono (by decide)) rfl g_law_draw F_law_draw.kp b_law_draw .nil pass0 (pa_cons (pv 0) (pa_cons pe_int pa_nil))) pe_int (nomark _)))) (fun _ _ _ _ _ => (pe_tup (pa_cons (pv 8) (pa_cons (pe_call G_law_kind (hr.mono (by decide)) rfl g_law_kind F_law_kind.kp b_law_kind .nil pass0 (pa_cons (pv 0) (pa_cons (pv 9) pa_nil))) pa_nil)))))
      (pss_cons (ps_set (i := 5) sc_law_class.nd rfl (Or.inl rfl) (pe_lst pa_nil))
      (Evl.pss_cut (ps_if (pt_cmpR op_gt (pe_call G_law_draw (hr.mono (by decide)) rfl g_law_draw F_law_draw.kp b_law_draw .nil pass0 (pa_cons (pv 0) (pa_cons pe_int pa_nil))) pe_int (nomark _))
        (pss_one (ps_expr (pe_bm PySem.F.plainAttrs_list PySem.F.slot_list_append PySem.F.type_list_append mt_append (pv 5) (pa_cons (pe_make M.mkr GI (hr.mono (by decide)) rfl M.hm bI .nil passL (pa_cons pe_str (pa_cons (pe_tup pa_nil) (pa_cons (pe_call G_law_kind (hr.mono (by decide)) rfl g_law_kind F_law_kind.kp b_law_kind .nil pass0 (pa_cons (pv 0) (pa_cons pe_str pa_nil))) (pa_cons pe_int (pa_cons (pe_call G_law_code (hr.mono (by decide)) rfl g_law_code F_law_code.kp b_law_code .nil pass0 (pa_cons (pv 0) (pa_cons (pv 1) (pa_cons pe_int (pa_cons pe_int pa_nil))))) pa_nil)))))) pa_nil))))
        pss_nil)
      (Evl.pss_cut (ps_if (pt_cmpR op_gt (pe_call G_law_draw (hr.mono (by decide)) rfl g_law_draw F_law_draw.kp b_law_draw .nil pass0 (pa_cons (pv 0) (pa_cons pe_int pa_nil))) pe_int (nomark _))
        (pss_cons (ps_set (i := 6) sc_law_class.nd rfl (Or.inl rfl) (pe_tup (pa_cons (pe_call G_law_kind (hr.mono (by decide)) rfl g_law_kind F_law_kind.kp b_law_kind .nil pass0 (pa_cons (pv 0) (pa_cons pe_str pa_nil))) pa_nil)))
        (pss_one (ps_expr (pe_bm PySem.F.plainAttrs_list PySem.F.slot_list_append PySem.F.type_list_append mt_append (pv 5) (pa_cons (pe_make M.mkr GI (hr.mono (by decide)) rfl M.hm bI .nil passL (pa_cons pe_str (pa_cons (pv 6) (pa_cons (pe_call G_law_kind (hr.mono (by decide)) rfl g_law_kind F_law_kind.kp b_law_kind .nil pass0 (pa_cons (pv 0) (pa_cons pe_str pa_nil))) (pa_cons pe_int (pa_cons (pe_call G_law_code (hr.mono (by decide)) rfl g_law_code F_law_code.kp b_law_code .nil pass0 (pa_cons (pv 0) (pa_cons (pv 1) (pa_cons pe_int (pa_cons pe_int pa_nil))))) pa_nil)))))) pa_nil)))))
        pss_nil)
      (Evl.pss_cut (ps_set (i := 7) sc_law_class.nd rfl (Or.inl rfl) (pe_ifExp (pt_cmpR op_eq (pe_call G_law_draw (hr.mono (by decide)) rfl g_law_draw F_law_draw.kp b_law_draw .nil pass0 (pa_cons (pv 0) (pa_cons pe_int pa_nil))) pe_int (nomark _)) (pe_lst (pa_cons (pe_call G_law_pick (hr.mono (by decide)) rfl g_law_pick F_law_pick.kp b_law_pick .nil pass0 (pa_cons (pv 0) (pa_cons (pe_lst (pa_cons pe_str (pa_cons pe_str (pa_cons pe_str (pa_cons pe_str pa_nil))))) pa_nil))) pa_nil)) (pe_lst pa_nil)))
      (pss_one (ps_ret (pe_makeK (n := 1) C.mkr GT (hr.mono (by decide)) rfl C.hm kb pass0 (pa_cons (pv 1) pa_nil) (pk_cons (pv 2) (pk_cons (pv 7) (pk_cons (pv 4) (pk_cons (pv 5) pk_nil)))))))))))))), ?_⟩
    refine ⟨_, rfl, le_line (by simp), fun b hb => ?_⟩
    have e1 := Evl.Ex.new (o := .lst [.str "top", .str "top", .str "a", .str "b", .str "c", .str "d"]) hb
    refine ⟨p, b, _, rfl, hs.ex e1, hs.ne hb, upd_same, by simp, by simp, fun x H1 hx l1 => ?_⟩
    have lA := (Lx.of hs e1).trans l1
    obtain ⟨ab, rfl, hab⟩ := pickS (zs := ["top", "top", "a", "b", "c", "d"]) (S := nmS) (by decide +kernel) hx
    clear hb e1 l1 hx
    refine ⟨le_line (by simp), fun t1 ht1 => ⟨le_line (by simp), fun t2 ht2 => ⟨le_line (by simp), fun U hU => ?_⟩⟩⟩
    have f1 := Evl.Ex.new (o := .tup [.str "f", .str "a"]) ht1
    have f2 := Evl.Ex.new (o := .tup [.str "g", .str "b"]) ht2
    have f3 := Evl.Ex.new (o := .lst [.ref t1, .ref t2]) hU
    have hU3 := upd_same (H := upd (upd H1 t1 (.tup [.str "f", .str "a"])) t2 (.tup [.str "g", .str "b"])) (a := U) (o := .lst [.ref t1, .ref t2])
    have ht13 := f3 _ _ (f2 _ _ (upd_same (H := H1) (a := t1) (o := .tup [.str "f", .str "a"])))
    have ht23 := f3 _ _ (upd_same (H := upd H1 t1 (.tup [.str "f", .str "a"])) (a := t2) (o := .tup [.str "g", .str "b"]))
    have lB := ((lA.then f1).then f2).then f3
    have nU := ((lA.then f1).then f2).sc.ne hU
    have nt1 := lA.sc.ne ht1
    have nt2 := (lA.then f1).sc.ne ht2
    generalize upd (upd (upd H1 t1 (.tup [.str "f", .str "a"])) t2 (.tup [.str "g", .str "b"])) U (.lst [.ref t1, .ref t2]) = H2 at f3 hU3 ht13 ht23 lB
    clear f1 f2 f3 ht1 ht2 hU
    -- fields
    refine ⟨_, rfl, U, rfl, ⟨_, SqL.of hU3⟩, fun D0 hD => ?_⟩
    have nD := lB.sc.ne hD
    refine lc_it (walk_list (K := K) (a := U) (xs := [.ref t1, .ref t2])) (fun i H' => Lx p H2 H' ∧ ∃ (fs : List (Str × Str)) (xs : List V), H' D0 = some (.lst xs) ∧ DzAll p H' xs (fs.map fldD) ∧ fs.map (·.1) ∈ fnI i ∧ ∀ q ∈ fs, q.2 ∈ kS)
      ⟨.of lB.sc (Evl.Ex.new hD), [], [], upd_same, .nil, by decide +kernel, fun q h => nomatch h⟩ (fun i H' _ q => SqL.of (q.1.at hU3 nU)) ?_ ?_
    · rintro i x H3 H4 hi ⟨l3, fs, xs, hD3, hall, hfn, hks⟩ ⟨rfl, hx⟩
      have hi2 : i < 2 := by simpa using hi
      obtain ⟨t, nm, dk, rfl, nt, htt, hdk, hnm⟩ : ∃ t nm dk, x = .ref t ∧ t ≠ p ∧ H2 t = some (.tup [.str nm, .str dk]) ∧ dk ∈ kS ∧ nm = (["f", "g"] : List Str).getD i Str.empty := by
        have h2 : i = 0 ∨ i = 1 := by omega
        rcases h2 with rfl | rfl
        · exact ⟨t1, "f", "a", (Option.some.inj hx).symm, nt1, ht13, by decide +kernel, rfl⟩
        · exact ⟨t2, "g", "b", (Option.some.inj hx).symm, nt2, ht23, by decide +kernel, rfl⟩
      have hfi := fnI_0 i (List.mem_range.mpr hi2) _ hfn
      refine ⟨t, _, rfl, SqT.of (l3.at htt nt), rfl, _, _, rfl, _, _, rfl, rfl, rfl, ?_⟩
      refine ⟨_, rfl, p, _, rfl, l3.sc, by decide, by decide, fun d H5 _ _ l5 => ⟨rfl, _, rfl, ?_⟩⟩
      have hD5 := l5.at hD3 nD
      have hall5 := hall.lx l5
      refine ite2 (fun _ => ?_) (fun _ => ⟨l3.trans l5, fs, xs, hD5, hall5, hfi.1, hks⟩)
      refine ⟨_, rfl, _, rfl, _, rfl, p, dk, rfl, l5.sc, hdk, fun y H6 hy l6 => ⟨le_line (by simp), fun t3 ht3 => ?_⟩⟩
      have f1 := Evl.Ex.new (o := .tup [.str nm, .str y]) ht3
      have l57 := l6.then f1
      have hD7 := l57.at hD5 nD
      have hno : noLs (fs.map fldD) = true := noLs_of fun d hd => by obtain ⟨q, _, rfl⟩ := List.mem_map.mp hd; rfl
      have hxl : xs.length = fs.length := by rw [hall.length, List.length_map]
      have hfl : fs.length ≤ 2 := by
        have h2 : i = 0 ∨ i = 1 := by omega
        rcases h2 with rfl | rfl
        · have := (by decide +kernel : ∀ zs ∈ fnI 0, zs.length ≤ 2) _ hfn
          rwa [List.length_map] at this
        · have := (by decide +kernel : ∀ zs ∈ fnI 1, zs.length ≤ 2) _ hfn
          rwa [List.length_map] at this
      refine ⟨xs, hD7, Nat.lt_of_lt_of_le (show xs.length < 1000 by omega) (le_line (Nat.le_refl _)), ((l3.trans l5).trans l57).mut nD hD, fs ++ [(nm, y)], xs ++ [.ref t3], upd_same, ?_, ?_, fun q hq => ?_⟩
      · rw [List.map_append]
        exact DqAll.app (DzAll.mutD hD7 nD (hall5.lx l57) hno) (DzAll.mutD hD7 nD (ds := [fldD (nm, y)]) (.cons (Dz.tupN l6.sc ht3 (.cons (.str _) (.cons (.str _) .nil))) .nil) rfl)
      · rw [List.map_append, hnm]
        exact hfi.2
      · rcases List.mem_append.mp hq with h | h
        · exact hks q h
        · rw [List.mem_singleton.mp h]; exact hy
    rintro H3 ⟨l3, fs, fx, hD3, hfall, hfn, hks⟩
    have lC := lB.trans l3
    refine ⟨Nat.zero_le _, fun M0 hM => ?_⟩
    have fM := Evl.Ex.new (o := .lst []) hM
    have nM := lC.sc.ne hM
    have hHM3 : H M0 = none := lx_none lC hM
    have lD := lC.then fM
    have hM4 := upd_same (H := H3) (a := M0) (o := .lst [])
    have hD4 := fM _ _ hD3
    have hfall4 := hfall.lx (.of lC.sc fM)
    have nMD : M0 ≠ D0 := fun e => by rw [e, hD3] at hM; cases hM
    have hHM : H M0 = none := hHM3
    have hnof : noLs (fs.map fldD) = true := noLs_of fun d hd => by obtain ⟨q, _, rfl⟩ := List.mem_map.mp hd; rfl
    generalize upd H3 M0 (.lst []) = H4 at fM lD hM4 hD4 hfall4
    refine ⟨fun σ' H' => ∃ (ms : List Mt) (mx : List V), σ' = [some (.ref p), some (.str z), some (.str ab), some (.ref U), some (.ref D0), some (.ref M0), none, none, none, none] ∧ Lx p H H' ∧ H' M0 = some (.lst mx) ∧ All2 (MtAt (He.ga K "Method") (rm p H')) mx ms ∧ ms.map (·.name) ∈ ([[], ["n"]] : List (List Str)) ∧ (∀ m ∈ ms, MtP m) ∧ H' D0 = some (.lst fx) ∧ DzAll p H' fx (fs.map fldD), ?_, ?_⟩
    · refine ⟨_, rfl, p, _, rfl, lD.sc, by decide, by decide, fun d H5 _ _ l5 => ⟨_, _, rfl, rfl, _, rfl, ?_⟩⟩
      have hM5 := l5.at hM4 nM
      have l05 := lD.trans l5
      have hD5 := l5.at hD4 nD
      have hf5 := hfall4.lx l5
      refine ite2 (fun _ => ?_) (fun _ => ⟨[], [], rfl, l05, hM5, .nil, by decide +kernel, (fun m h => nomatch h), hD5, hf5⟩)
      refine ⟨_, rfl, .inl ⟨rfl, _, SqL.of hM5⟩, Nat.zero_le _, fun t ht => ?_⟩
      have f1 := Evl.Ex.new (o := .tup []) ht
      have hts := upd_same (H := H5) (a := t) (o := .tup [])
      generalize upd H5 t (.tup []) = H5' at f1 hts
      have nt := l5.sc.ne ht
      have l6 := l5.then f1
      refine ⟨_, rfl, p, "a", rfl, l6.sc, by decide +kernel, fun kd H6 hkd l7 => ?_⟩
      refine ⟨_, rfl, _, rfl, p, z, 0, 1, rfl, (cnS_ok z hz).2.2, by omega, by omega, l7.sc, fun L xs cd H7 l8 hL0 hL7 hall7 hno7 hcd => ?_⟩
      intro x dx hx hdx hne
      have l9 : Lx p H5 H7 := ((Lx.of l5.sc f1).trans l7).trans l8
      have l97 := l05.trans l9
      have hmp : MtP ⟨"n", [], kd, 5, cd⟩ := ⟨by simp, fun z h => (nomatch h), hkd, .inl rfl, hcd, hcd.codeD rfl (seq40 hcd) (Int.le_refl _)⟩
      have eX : Evl.Ex H7 (upd (upd H7 dx (.own x)) x (.ins (He.ga K "Method") dx [])) := fun b o e => by
        rw [upd_ne (by rintro rfl; rw [hx] at e; cases e), upd_ne (by rintro rfl; rw [hdx] at e; cases e)]; exact e
      obtain ⟨dp, hdp, hparts⟩ := parts_of (m := ⟨"n", [], kd, 5, cd⟩) (H := upd (upd H7 dx (.own x)) x (.ins (He.ga K "Method") dx [])) (p := .ref t) (c := .ref L) hmp (by show ("n" : Str) ∈ fS; decide +kernel) (.inr (.tup (eX _ _ (l8.at (l7.at hts nt) nt)) .nil)) (.lst (eX _ _ hL7) ((dq_unrm hall7).ext eX))
      refine ⟨x, dx, _, _, _, _, _, _, dp, _, _, _, rfl, upd_same, hparts, fun H8 p' c' k8 hx8 hp8 hc8 => ⟨rfl, ?_⟩⟩
      obtain ⟨e78, nx⟩ := make_lx l8.sc hx hdx k8
      have l98 := l97.then e78
      have hM8 := e78 _ _ (l9.at hM5 nM)
      refine ⟨M0, [], _, rfl, rfl, hM8, Nat.lt_of_lt_of_le (show 0 < 1000 by decide) (le_line (Nat.le_refl _)), ?_⟩
      have hmt : MtAt (He.ga K "Method") (rm p H8) (.ref x) ⟨"n", [], kd, 5, cd⟩ := MtAt.rmP l98.sc nx hx8 (by have e : itemsOf dp = _ := hdp; rw [e] at hp8; exact hp8) hc8 hno7
      refine ⟨[⟨"n", [], kd, 5, cd⟩], [.ref x], rfl, l98.mut nM hHM, upd_same, .cons (hmt.mutR hM8 nM hno7) .nil, by show [("n" : Str)] ∈ _; decide +kernel, (fun m h => by rw [List.mem_singleton.mp h]; exact hmp), (upd_ne (Ne.symm nMD)).trans (e78 _ _ (l9.at hD5 nD)), DzAll.mutD hM8 nM (DzAll.lx (hf5.lx l9) (.of l8.sc e78)) hnof⟩
    rintro σ' H5 ⟨ms, mx, rfl, lE, hM5, hmx, hmn, hmP, hD5, hf5⟩
    refine ⟨fun σ' H' => ∃ (ms : List Mt) (mx : List V) (v6 : Option V), σ' = [some (.ref p), some (.str z), some (.str ab), some (.ref U), some (.ref D0), some (.ref M0), v6, none, none, none] ∧ Lx p H H' ∧ H' M0 = some (.lst mx) ∧ All2 (MtAt (He.ga K "Method") (rm p H')) mx ms ∧ ms.map (·.name) ∈ mnU ∧ (∀ m ∈ ms, MtP m) ∧ H' D0 = some (.lst fx) ∧ DzAll p H' fx (fs.map fldD), ?_, ?_⟩
    · refine ⟨_, rfl, p, _, rfl, lE.sc, by decide, by decide, fun d H6 _ _ l6 => ⟨_, _, rfl, rfl, _, rfl, ?_⟩⟩
      have hM6 := l6.at hM5 nM
      have hmx6 := hmx.imp fun _ _ q => q.ext l6.ex
      have l06 := lE.trans l6
      have hD6 := l6.at hD5 nD
      have hf6 := hf5.lx l6
      refine ite2 (fun _ => ?_) (fun _ => ⟨ms, mx, none, rfl, l06, hM6, hmx6, ?_, hmP, hD6, hf6⟩)
      · refine ⟨_, rfl, p, "a", rfl, l6.sc, by decide +kernel, fun k1 H7 hk1 l7 => ⟨le_line (by simp), fun t ht => ?_⟩⟩
        have f1 := Evl.Ex.new (o := .tup [.str k1]) ht
        have hts := upd_same (H := H7) (a := t) (o := .tup [.str k1])
        generalize upd H7 t (.tup [.str k1]) = H7' at f1 hts
        have nt := l7.sc.ne ht
        have l67 := l7.then f1
        have hM7 := l67.at hM6 nM
        refine ⟨_, rfl, .inl ⟨rfl, _, SqL.of hM7⟩, _, rfl, _, rfl, p, "b", rfl, l67.sc, by decide +kernel, fun kd H8 hkd l8 => ?_⟩
        refine ⟨_, rfl, _, rfl, p, z, 1, 2, rfl, (cnS_ok z hz).2.2, by omega, by omega, l8.sc, fun L xs cd H9 l9 hL0 hL9 hall9 hno9 hcd => ?_⟩
        intro x dx hx hdx hne
        have l69 : Lx p H6 H9 := (l67.trans l8).trans l9
        have hmp : MtP ⟨"m", [k1], kd, 5, cd⟩ := ⟨by simp, fun z h => by rw [List.mem_singleton.mp h]; exact hk1, hkd, .inl rfl, hcd, hcd.codeD rfl (seq40 hcd) (Int.le_refl _)⟩
        have eX : Evl.Ex H9 (upd (upd H9 dx (.own x)) x (.ins (He.ga K "Method") dx [])) := fun b o e => by
          rw [upd_ne (by rintro rfl; rw [hx] at e; cases e), upd_ne (by rintro rfl; rw [hdx] at e; cases e)]; exact e
        obtain ⟨dp, hdp, hparts⟩ := parts_of (m := ⟨"m", [k1], kd, 5, cd⟩) (H := upd (upd H9 dx (.own x)) x (.ins (He.ga K "Method") dx [])) (p := .ref t) (c := .ref L) hmp (by show ("m" : Str) ∈ fS; decide +kernel) (.inr (.tup (eX _ _ (l9.at (l8.at hts nt) nt)) (.cons (.str k1) .nil))) (.lst (eX _ _ hL9) ((dq_unrm hall9).ext eX))
        refine ⟨x, dx, _, _, _, _, _, _, dp, _, _, _, rfl, upd_same, hparts, fun HA p' c' kA hxA hpA hcA => ⟨rfl, ?_⟩⟩
        obtain ⟨e9A, nx⟩ := make_lx l9.sc hx hdx kA
        have l6A := l69.then e9A
        have hMA := e9A _ _ (l69.at hM6 nM)
        have hml := hmx.length
        have hm1 : ms.length ≤ 1 := by
          simp only [List.mem_cons, List.not_mem_nil, or_false] at hmn
          rcases hmn with e | e <;> (have := congrArg List.length e; rw [List.length_map] at this; simp only [List.length_cons, List.length_nil] at this; omega)
        refine ⟨M0, mx, _, rfl, rfl, hMA, Nat.lt_of_lt_of_le (show mx.length < 1000 by omega) (le_line (Nat.le_refl _)), ?_⟩
        have hmt : MtAt (He.ga K "Method") (rm p HA) (.ref x) ⟨"m", [k1], kd, 5, cd⟩ := MtAt.rmP l6A.sc nx hxA (by have e : itemsOf dp = _ := hdp; rw [e] at hpA; exact hpA) hcA hno9
        refine ⟨ms ++ [⟨"m", [k1], kd, 5, cd⟩], mx ++ [.ref x], _, rfl, (l06.trans l6A).mut nM hHM, upd_same, All2.app (hmx6.impM fun u m hm q => (MtAt.mutR (q.ext l6A.ex) hMA nM (hmP m hm).okc.2)) (.cons (hmt.mutR hMA nM hno9) .nil), ?_, (fun m h => ?_), (upd_ne (Ne.symm nMD)).trans (e9A _ _ (l69.at hD6 nD)), DzAll.mutD hMA nM (DzAll.lx (hf6.lx l69) (.of l9.sc e9A)) hnof⟩
        · simp only [List.mem_cons, List.not_mem_nil, or_false] at hmn
          rw [List.map_append]
          rcases hmn with e | e
          · rw [e]; show (["m"] : List Str) ∈ mnU; decide +kernel
          · rw [e]; show (["n", "m"] : List Str) ∈ mnU; decide +kernel
        · rcases List.mem_append.mp h with h | h
          · exact hmP m h
          · rw [List.mem_singleton.mp h]; exact hmp
      · simp only [List.mem_cons, List.not_mem_nil, or_false] at hmn
        rcases hmn with e | e <;> rw [e] <;> decide +kernel
    clear hmx hmn hmP hM5 hD5 hf5 lE
    rintro σ' H5 ⟨ms, mx, v6, rfl, lE, hM5, hmx, hmn, hmP, hD5, hf5⟩
    refine ⟨fun σ' H' => ∃ (S : Addr) (zs : List Str), σ' = [some (.ref p), some (.str z), some (.str ab), some (.ref U), some (.ref D0), some (.ref M0), v6, some (.ref S), none, none] ∧ Lx p H5 H' ∧ H' S = some (.lst (zs.map V.str)) ∧ zs ∈ mkU, ?_, ?_⟩
    · refine ⟨_, rfl, p, _, rfl, lE.sc, by decide, by decide, fun d H6 _ _ l6 => ⟨rfl, _, rfl, ?_⟩⟩
      refine ite2 (fun _ => ?_) (fun _ => ⟨Nat.zero_le _, fun S hS => ⟨S, [], rfl, l6.then (Evl.Ex.new hS), upd_same, by decide +kernel⟩⟩)
      refine ⟨_, rfl, le_line (by simp), fun b hb => ?_⟩
      have e1 := Evl.Ex.new (o := .lst [.str "a", .str "b", .str "c", .str "d"]) hb
      refine ⟨p, b, _, rfl, l6.sc.ex e1, l6.sc.ne hb, upd_same, by simp, by simp, fun x H7 hx l7 => ⟨le_line (by simp), fun S hS => ?_⟩⟩
      obtain ⟨y, rfl, hy⟩ := pickS (zs := ["a", "b", "c", "d"]) (S := ["a", "b", "c", "d"]) (fun _ h => h) hx
      refine ⟨S, [y], rfl, ((l6.then e1).trans l7).then (Evl.Ex.new hS), upd_same, ?_⟩
      simp only [List.mem_cons, List.not_mem_nil, or_false] at hy
      rcases hy with rfl | rfl | rfl | rfl <;> decide +kernel
    rintro σ' H6 ⟨S, zs, rfl, l6, hS, hzs⟩
    have hM6 := l6.at hM5 nM
    have hD6 := l6.at hD5 nD
    have hf6 := dq_unrm (hf5.lx l6)
    have hmx6 : All2 (MtAt (He.ga K "Method") H6) mx ms := hmx.imp fun _ _ q => (q.ext l6.ex).ext (fun a o q => by
      have n1 := rm_ne_of q
      rw [rm_ne n1] at q
      exact q)
    have l06 := lE.trans l6
    refine ⟨_, rfl, _, rfl, _, rfl, _, rfl, _, rfl, rfl, rfl, fun x dx hx hdx hne => ?_⟩
    have e6 : Evl.Ex H6 (upd (upd H6 dx (.own x)) x (.ins (He.ga K "ClassText") dx [])) := fun b o e => by
      rw [upd_ne (by rintro rfl; rw [hx] at e; cases e), upd_ne (by rintro rfl; rw [hdx] at e; cases e)]; exact e
    have hT : TxP ⟨z, ab, zs, fs, ms⟩ := ⟨hz, hab, hzs, ⟨hfn, hks⟩, ⟨hmn, hmP⟩⟩
    have hk2 := (mkU_ok _ hzs).1
    have hf2 := (fnU_ok _ hfn).1
    rw [List.length_map] at hf2
    refine ⟨x, dx, .ref S, .ref D0, M0, .list (zs.map .str), .list (fs.map fldD), mx, ⟨z, ab, zs, fs, ms⟩, rfl, upd_same, .lst (e6 _ _ hS) (strs_dq _), rfl, decide_eq_true (by rw [List.length_map]; omega), .lst (e6 _ _ hD6) (hf6.ext e6), rfl, decide_eq_true (by rw [List.length_map]; omega), .inl (e6 _ _ hM6), hmx6.imp (fun _ _ q => q.ext e6), hT, fun H7 k7 ht => ⟨rfl, ?_⟩⟩
    obtain ⟨e67, _⟩ := make_lx l06.sc hx hdx k7
    exact hQ _ _ _ (l06.then e67) ht hT
end
end K50

set_option Elab.async false
set_option linter.all false
set_option maxRecDepth 100000
set_option maxHeartbeats 0
/-! a class text with no marks, fields, methods given -/
namespace K50.Z
open PySem PySem.Spec PyProof.Rows L2 EX2 TX StX K50
/-- an empty tuple of the written part -/
def KT (K : PySem.W.Frag) (a : Addr) : Prop := ∃ (o : Obj) (its : Array Value) (n : Nat), K.lookup a = some o ∧ o.cls = .type "tuple" ∧ o.data = .seq its n ∧ its.size ≤ sizeLine ∧ Vals [] its.toList
theorem KT.sq {K : PySem.W.Frag} {a : Addr} (h : KT K a) {H : Hp} : SqT K H a [] := .inr h
theorem KT.of {K : PySem.W.Frag} {a : Addr} (h : SqT K (fun _ => none) a []) : KT K a := by
  rcases h with h | h
  · rcases h with h | ⟨o, h⟩ <;> cases h
  · exact h
theorem KT.ty {K : PySem.W.Frag} {a : Addr} (h : KT K a) {H : Hp} : TyX K H (.ref a) (.type "tuple") := by
  obtain ⟨o, its, n, h1, h2, _⟩ := h
  exact .kTuple h1 h2
def spSeqE (K : PySem.W.Frag) : Sp := fun vs H Q _ => ∃ (a : Addr) (m : Int), vs = [.ref a, .int m] ∧ KT K a ∧ 0 ≤ m ∧ ∀ H', Evl.Ex H H' → Q (.bl true) H'
def spE (K : PySem.W.Frag) : Sp := fun vs H Q _ => ∃ (a : Addr), vs = [.ref a] ∧ KT K a ∧ ∀ H', Evl.Ex H H' → Q (.bl true) H'
def zfields (z : Str) (mk fl me : Addr) : List (Str × V) := cfields (.str z) (.str "top") (.ref mk) (.ref fl) (.ref me)
def spInitZ (K : PySem.W.Frag) (CT : Addr) : Sp := fun vs H Q _ => ∃ (a dx : Addr) (z : Str) (mk fl me : Addr), vs = [.ref a, .str z, .str "top", .ref mk, .ref fl, .ref me] ∧ H a = some (.ins CT dx []) ∧ z ∈ cnS ∧ KT K mk ∧ KT K fl ∧ KT K me ∧
  ∀ H' : Hp, (∀ b o, b ≠ a → H b = some o → H' b = some o) → H' a = some (.ins CT dx (zfields z mk fl me)) → Q .non H'
def spFmtZ (K : PySem.W.Frag) (CT : Addr) : Sp := fun vs H Q _ => ∃ (x dx : Addr) (z : Str) (mk fl me : Addr), vs = [.ref x] ∧ H x = some (.ins CT dx (zfields z mk fl me)) ∧ z ∈ cnS ∧ KT K mk ∧ KT K fl ∧ KT K me ∧
  ∀ H', Q (.str (joinS [classS, z, "top"])) H'
section
variable {P : Program} {w : World} {K : PySem.W.Frag} {mg : Str → Option Value} {base : Heap} {f : Addr} {fd : FuncData}
theorem okis_sequence (F : FnP K "is_sequence" ssequence f fd) (D : CD w K mg) : FnOk P w K mg base CX0 1 f fd ["obj", "most"] (spSeqE K) := by
  have T := D.t
  refine F.ok scseq (fun vs H Q E h => ?_) (fun cdv A outer s H vs Q E hr h => ?_)
  · obtain ⟨x, m, rfl, _⟩ := h
    rfl
  · obtain ⟨a, m, rfl, hd, hm, hQ⟩ := h
    refine ⟨_, PSs.nox (pss_one (ps_ret (pe_and (pe_callB call_isiT rfl T.isi boot_isi (pa_cons (pv 0) (pa_cons (pe_tup (pa_cons (pe_bltn rfl T.lst boot_list (v := .ty "list") rfl) (pa_cons (pe_bltn rfl T.tup boot_tuple (v := .ty "tuple") rfl) pa_nil))) pa_nil))) (pe_one (pe_cmpR op_le (pe_callB call_len rfl T.len boot_len (pa_cons (pv 0) pa_nil)) (pv 1) (nomark _)))))), ?_⟩
    refine ⟨_, rfl, le_line (by simp), fun t1 h1 => ?_⟩
    have e1 := Evl.Ex.new (o := .tup [.ty "list", .ty "tuple"]) h1
    refine ⟨.ref a, t1, _, _, _, _, rfl, upd_same, .cons (.ty _) (.cons (.ty _) .nil), hd.ty, kit_list2 (.tuple []), _, rfl, iteT ⟨_, rfl, _, _, rfl, .inr ⟨_, hd.sq, rfl⟩, _, rfl, _, _, rfl, rfl, ?_⟩⟩
    have q' : Q (.bl (decide ((([] : List V).length : Int) ≤ m))) (upd H t1 (.tup [.ty "list", .ty "tuple"])) := by rw [decide_eq_true (show (([] : List V).length : Int) ≤ m from hm)]; exact hQ _ e1
    exact q'
abbrev sare_marks : Stmt := top 29
abbrev nare_marks : List Str := ["value", "mark"]
theorem scare_marks : FnScope nare_marks ["value"] (defScope sare_marks) := ⟨rfl, rfl, rfl, by decide +kernel, rfl, by decide +kernel, by decide +kernel⟩
theorem okare_marks (F : FnP K "are_marks" sare_marks f fd) (D : CD w K mg) : FnOk P w K mg base CX0 3 f fd ["value"] (spE K) := by
  have T := D.t
  obtain ⟨t8, g8⟩ := D.parts8
  obtain ⟨fis_class_name, fdis_class_name, gis_class_name, Fis_class_name⟩ := D.is_class_name
  have Gis_class_name := okis_class_name (P := P) (base := base) Fis_class_name D
  have bis_class_name : Binds K fdis_class_name ["value"] [] := Fis_class_name.bindsN fun _ _ _ _ _ _ us hl => match us, hl with | [_], _ => rfl
  obtain ⟨fis_sequence, fdis_sequence, gis_sequence, Fis_sequence⟩ := D.is_sequence
  have Gis_sequence := okis_sequence (P := P) (base := base) Fis_sequence D
  have bis_sequence : Binds K fdis_sequence ["obj", "most"] [] := Fis_sequence.bindsN fun _ _ _ _ _ _ us hl => match us, hl with | [_, _], _ => rfl
  refine F.ok scare_marks (fun vs H Q E h => ?_) (fun cdv A outer s H vs Q E hr h => ?_)
  · obtain ⟨a, rfl, _⟩ := h
    rfl
  · obtain ⟨a, rfl, hd, hQ⟩ := h
    refine ⟨_, PSs.nox (pss_cons (ps_if (PW.pt (pw_or (pt_not (pt_val (pe_call Gis_sequence (hr.mono (by decide)) rfl gis_sequence Fis_sequence.kp bis_sequence .nil pass0 (pa_cons (pv 0) (pa_cons (pe_glob rfl g8 (v := .int 8) ⟨t8, rfl⟩) pa_nil))))) (pw_or1 (pt_not (pt_val (pe_callB (cr_all rfl) rfl T.all boot_all (pa_cons (pe_lc (own := [("mark", 1)]) (g := gName 1) (tt := tYes) rfl scare_marks.nd (pi_seqq (pv 0)) (blkOk_by (N := nare_marks) (sc := defScope sare_marks) (by decide +kernel)) (fun _ _ _ _ _ => (pg_name (i := 1) scare_marks.nd rfl (Or.inl rfl))) (fun _ _ _ _ _ => pts_nil) (fun _ _ _ _ _ => (pe_call Gis_class_name (hr.mono (by decide)) rfl gis_class_name Fis_class_name.kp bis_class_name .nil pass0 (pa_cons (pv 1) pa_nil)))) pa_nil)))))))
        (pss_one (ps_ret pe_bl))
        pss_nil)
      (pss_one (ps_ret (pe_cmpR op_eq (pe_callB call_lenS rfl T.len boot_len (pa_cons (pe_callTy (r := rSetS K w) (cr_setS rfl) rfl T.set boot_set (pa_cons (pv 0) pa_nil)) pa_nil)) (pe_callB call_len rfl T.len boot_len (pa_cons (pv 0) pa_nil)) (nomark _))))), ?_⟩
    refine ⟨_, rfl, a, 8, rfl, hd, by decide, fun H1 e1 => ⟨_, rfl, ?_⟩⟩
    refine ifF rfl ?_
    refine ⟨_, rfl, a, rfl, .inr ⟨⟨_, hd.sq⟩, fun L hL => ?_⟩⟩
    refine lc_map (walk_tup (K := K) (a := a) (xs := [])) hL (fun H' e => hd.sq) (fun _ => .bl true) (by decide) (fun j _ _ _ h => absurd h (Nat.not_lt_zero j)) (fun j _ _ _ h => absurd h (Nat.not_lt_zero j)) ?_
    intro H3 e3 hL3
    refine ⟨L, [], rfl, SqL.of hL3, ?_⟩
    refine ⟨_, rfl, iteF ?_⟩
    refine ⟨_, rfl, a, [], rfl, .inr hd.sq, by decide, fun p hp => ⟨p, [], rfl, upd_same, ?_⟩⟩
    refine ⟨_, rfl, _, _, rfl, .inr ⟨[], hd.sq, rfl⟩, rfl, ?_⟩
    exact hQ _ ((e1.trans e3).trans (Evl.Ex.new hp))
abbrev sare_fields : Stmt := top 31
abbrev nare_fields : List Str := ["value", "field", "name", "kind"]
theorem scare_fields : FnScope nare_fields ["value"] (defScope sare_fields) := ⟨rfl, rfl, rfl, by decide +kernel, rfl, by decide +kernel, by decide +kernel⟩
theorem okare_fields (F : FnP K "are_fields" sare_fields f fd) (D : CD w K mg) : FnOk P w K mg base CX0 4 f fd ["value"] (spE K) := by
  have T := D.t
  obtain ⟨t8, g8⟩ := D.parts8
  obtain ⟨fis_field, fdis_field, gis_field, Fis_field⟩ := D.is_field
  have Gis_field := okis_field (P := P) (base := base) Fis_field D
  have bis_field : Binds K fdis_field ["value"] [] := Fis_field.bindsN fun _ _ _ _ _ _ us hl => match us, hl with | [_], _ => rfl
  obtain ⟨fis_sequence, fdis_sequence, gis_sequence, Fis_sequence⟩ := D.is_sequence
  have Gis_sequence := okis_sequence (P := P) (base := base) Fis_sequence D
  have bis_sequence : Binds K fdis_sequence ["obj", "most"] [] := Fis_sequence.bindsN fun _ _ _ _ _ _ us hl => match us, hl with | [_, _], _ => rfl
  refine F.ok scare_fields (fun vs H Q E h => ?_) (fun cdv A outer s H vs Q E hr h => ?_)
  · obtain ⟨a, rfl, _⟩ := h
    rfl
  · obtain ⟨a, rfl, hd, hQ⟩ := h
    refine ⟨_, PSs.nox (pss_cons (ps_if (PW.pt (pw_or (pt_not (pt_val (pe_call Gis_sequence (hr.mono (by decide)) rfl gis_sequence Fis_sequence.kp bis_sequence .nil pass0 (pa_cons (pv 0) (pa_cons (pe_glob rfl g8 (v := .int 8) ⟨t8, rfl⟩) pa_nil))))) (pw_or1 (pt_not (pt_val (pe_callB (cr_all rfl) rfl T.all boot_all (pa_cons (pe_lc (own := [("field", 1)]) (g := gName 1) (tt := tYes) rfl scare_fields.nd (pi_seqq (pv 0)) (blkOk_by (N := nare_fields) (sc := defScope sare_fields) (by decide +kernel)) (fun _ _ _ _ _ => (pg_name (i := 1) scare_fields.nd rfl (Or.inl rfl))) (fun _ _ _ _ _ => pts_nil) (fun _ _ _ _ _ => (pe_call Gis_field (hr.mono (by decide)) rfl gis_field Fis_field.kp bis_field .nil pass0 (pa_cons (pv 1) pa_nil)))) pa_nil)))))))
        (pss_one (ps_ret pe_bl))
        pss_nil)
      (pss_one (ps_ret (pe_cmpR op_eq (pe_callB call_lenS rfl T.len boot_len (pa_cons (pe_scS (own := [("name", 2), ("kind", 3)]) (g := gTup K 2 (gCons (gName 2) (gCons (gName 3) gNil))) rfl scare_fields.nd (pi_seqq (pv 0)) (blkOk_by (N := nare_fields) (sc := defScope sare_fields) (by decide +kernel)) (fun _ _ _ _ _ => pg_tup rfl (pgs_cons (pg_name (i := 2) scare_fields.nd rfl (Or.inl rfl)) (pgs_cons (pg_name (i := 3) scare_fields.nd rfl (Or.inl rfl)) pgs_nil))) (fun _ _ _ _ _ => pts_nil) (fun _ _ _ _ _ => pv 2)) pa_nil)) (pe_callB call_len rfl T.len boot_len (pa_cons (pv 0) pa_nil)) (nomark _))))), ?_⟩
    refine ⟨_, rfl, a, 8, rfl, hd, by decide, fun H1 e1 => ⟨_, rfl, ?_⟩⟩
    refine ifF rfl ?_
    refine ⟨_, rfl, a, rfl, .inr ⟨⟨_, hd.sq⟩, fun L hL => ?_⟩⟩
    refine lc_map (walk_tup (K := K) (a := a) (xs := [])) hL (fun H' e => hd.sq) (fun _ => .bl true) (by decide) (fun j _ _ _ h => absurd h (Nat.not_lt_zero j)) (fun j _ _ _ h => absurd h (Nat.not_lt_zero j)) ?_
    intro H3 e3 hL3
    refine ⟨L, [], rfl, SqL.of hL3, ?_⟩
    refine ⟨_, rfl, iteF ?_⟩
    refine ⟨_, rfl, a, rfl, .inr ⟨⟨_, hd.sq⟩, fun D hD => ?_⟩⟩
    refine scS_it (walk_tup (K := K) (a := a) (xs := [])) (fun i H' => H' = upd H3 D (SetSO w D [])) rfl (fun i H' _ q => hd.sq) (fun j _ _ _ h => absurd h (Nat.not_lt_zero j)) ?_
    rintro H4 rfl
    refine ⟨D, [], rfl, upd_same, ?_⟩
    refine ⟨_, rfl, _, _, rfl, .inr ⟨[], hd.sq, rfl⟩, rfl, ?_⟩
    exact hQ _ ((e1.trans e3).trans (Evl.Ex.new hD))
abbrev sare_methods : Stmt := top 32
abbrev nare_methods : List Str := ["value", "method"]
theorem scare_methods : FnScope nare_methods ["value"] (defScope sare_methods) := ⟨rfl, rfl, rfl, by decide +kernel, rfl, by decide +kernel, by decide +kernel⟩
theorem okare_methods (F : FnP K "are_methods" sare_methods f fd) (D : CD w K mg) (M : MethF K mg) (gN : GetM P w K mg base "Method" "name" "own_name") : FnOk P w K mg base CX0 3 f fd ["value"] (spE K) := by
  have T := D.t
  obtain ⟨t8, g8⟩ := D.parts8
  obtain ⟨hPr, fdN, GN, bN⟩ := gN
  obtain ⟨fis_sequence, fdis_sequence, gis_sequence, Fis_sequence⟩ := D.is_sequence
  have Gis_sequence := okis_sequence (P := P) (base := base) Fis_sequence D
  have bis_sequence : Binds K fdis_sequence ["obj", "most"] [] := Fis_sequence.bindsN fun _ _ _ _ _ _ us hl => match us, hl with | [_, _], _ => rfl
  refine F.ok scare_methods (fun vs H Q E h => ?_) (fun cdv A outer s H vs Q E hr h => ?_)
  · obtain ⟨a, rfl, _⟩ := h
    rfl
  · obtain ⟨a, rfl, hd, hQ⟩ := h
    refine ⟨_, PSs.nox (pss_cons (ps_if (PW.pt (pw_or (pt_not (pt_val (pe_call Gis_sequence (hr.mono (by decide)) rfl gis_sequence Fis_sequence.kp bis_sequence .nil pass0 (pa_cons (pv 0) (pa_cons (pe_glob rfl g8 (v := .int 8) ⟨t8, rfl⟩) pa_nil))))) (pw_or1 (pt_not (pt_val (pe_callB (cr_all rfl) rfl T.all boot_all (pa_cons (pe_lc (own := [("method", 1)]) (g := gName 1) (tt := tYes) rfl scare_methods.nd (pi_seqq (pv 0)) (blkOk_by (N := nare_methods) (sc := defScope sare_methods) (by decide +kernel)) (fun _ _ _ _ _ => (pg_name (i := 1) scare_methods.nd rfl (Or.inl rfl))) (fun _ _ _ _ _ => pts_nil) (fun _ _ _ _ _ => (pe_callB (r := rIsi K) call_isi rfl T.isi boot_isi (pa_cons (pv 1) (pa_cons (pe_glob rfl M.hm (v := .ref (He.ga K "Method")) rfl) pa_nil))))) pa_nil)))))))
        (pss_one (ps_ret pe_bl))
        pss_nil)
      (pss_one (ps_ret (pe_cmpR op_eq (pe_callB call_lenS rfl T.len boot_len (pa_cons (pe_scS (own := [("method", 1)]) (g := gName 1) rfl scare_methods.nd (pi_seqq (pv 0)) (blkOk_by (N := nare_methods) (sc := defScope sare_methods) (by decide +kernel)) (fun _ _ _ _ _ => (pg_name (i := 1) scare_methods.nd rfl (Or.inl rfl))) (fun _ _ _ _ _ => pts_nil) (fun _ _ _ _ _ => pe_prop (pv 1) M.cl hPr GN hr bN .nil pass0 (by rfl))) pa_nil)) (pe_callB call_len rfl T.len boot_len (pa_cons (pv 0) pa_nil)) (nomark _))))), ?_⟩
    refine ⟨_, rfl, a, 8, rfl, hd, by decide, fun H1 e1 => ⟨_, rfl, ?_⟩⟩
    refine ifF rfl ?_
    refine ⟨_, rfl, a, rfl, .inr ⟨⟨_, hd.sq⟩, fun L hL => ?_⟩⟩
    refine lc_map (walk_tup (K := K) (a := a) (xs := [])) hL (fun H' e => hd.sq) (fun _ => .bl true) (by decide) (fun j _ _ _ h => absurd h (Nat.not_lt_zero j)) (fun j _ _ _ h => absurd h (Nat.not_lt_zero j)) ?_
    intro H3 e3 hL3
    refine ⟨L, [], rfl, SqL.of hL3, ?_⟩
    refine ⟨_, rfl, iteF ?_⟩
    refine ⟨_, rfl, a, rfl, .inr ⟨⟨_, hd.sq⟩, fun D hD => ?_⟩⟩
    refine scS_it (walk_tup (K := K) (a := a) (xs := [])) (fun i H' => H' = upd H3 D (SetSO w D [])) rfl (fun i H' _ q => hd.sq) (fun j _ _ _ h => absurd h (Nat.not_lt_zero j)) ?_
    rintro H4 rfl
    refine ⟨D, [], rfl, upd_same, ?_⟩
    refine ⟨_, rfl, _, _, rfl, .inr ⟨[], hd.sq, rfl⟩, rfl, ?_⟩
    exact hQ _ ((e1.trans e3).trans (Evl.Ex.new hD))
abbrev sClassText___init__ : Stmt := inClass (top 33) 0
abbrev nClassText___init__ : List Str := ["self", "name", "above", "marks", "fields", "methods"]
theorem scClassText___init__ : FnScope nClassText___init__ ["self", "name", "above", "marks", "fields", "methods"] (defScope sClassText___init__) := ⟨rfl, rfl, rfl, by decide +kernel, rfl, by decide +kernel, by decide +kernel⟩
theorem okClassText___init__ (F : FunD K "__init__" "ClassText.__init__" (defArgs sClassText___init__) (defBody sClassText___init__) (defScope sClassText___init__) [] [("above", .str "top"), ("marks", .ref (kdAt "marks" K)), ("fields", .ref (kdAt "fields" K)), ("methods", .ref (kdAt "methods" K))] f fd) (D : CD w K mg) (M : MethF K mg) (gN : GetM P w K mg base "Method" "name" "own_name") (C : CtF K mg) : FnOk P w K mg base CX0 6 f fd ["self", "name", "above", "marks", "fields", "methods"] (spInitZ K (He.ga K "ClassText")) := by
  have T := D.t
  obtain ⟨fis_class_name, fdis_class_name, gis_class_name, Fis_class_name⟩ := D.is_class_name
  have Gis_class_name := okis_class_name (P := P) (base := base) Fis_class_name D
  have bis_class_name : Binds K fdis_class_name ["value"] [] := Fis_class_name.bindsN fun _ _ _ _ _ _ us hl => match us, hl with | [_], _ => rfl
  obtain ⟨fis_name, fdis_name, gis_name, Fis_name⟩ := D.is_name
  have Gis_name := okis_name (P := P) (base := base) Fis_name D
  have bis_name : Binds K fdis_name ["value"] [] := Fis_name.bindsN fun _ _ _ _ _ _ us hl => match us, hl with | [_], _ => rfl
  obtain ⟨fare_marks, fdare_marks, gare_marks, Fare_marks⟩ := D.are_marks
  have Gare_marks := okare_marks (P := P) (base := base) Fare_marks D
  have bare_marks : Binds K fdare_marks ["value"] [] := Fare_marks.bindsN fun _ _ _ _ _ _ us hl => match us, hl with | [_], _ => rfl
  obtain ⟨fare_fields, fdare_fields, gare_fields, Fare_fields⟩ := D.are_fields
  have Gare_fields := okare_fields (P := P) (base := base) Fare_fields D
  have bare_fields : Binds K fdare_fields ["value"] [] := Fare_fields.bindsN fun _ _ _ _ _ _ us hl => match us, hl with | [_], _ => rfl
  obtain ⟨fare_methods, fdare_methods, gare_methods, Fare_methods⟩ := D.are_methods
  have Gare_methods := okare_methods (P := P) (base := base) Fare_methods D
  have bare_methods : Binds K fdare_methods ["value"] [] := Fare_methods.bindsN fun _ _ _ _ _ _ us hl => match us, hl with | [_], _ => rfl
  refine F.ok scClassText___init__ (fun vs H Q E h => ?_) (fun cdv A outer s H vs Q E hr h => ?_)
  · obtain ⟨a, dx, z, mk, fl, me, rfl, _⟩ := h
    rfl
  · obtain ⟨a, dx, z, mk, fl, me, rfl, ha, hz, hmk, hfl, hme, hQ⟩ := h
    refine ⟨_, PSs.nox (pss_cons (ps_if (pt_not (pt_val (pe_call Gis_class_name (hr.mono (by decide)) rfl gis_class_name Fis_class_name.kp bis_class_name .nil pass0 (pa_cons (pv 1) pa_nil))))
        pss_no
        pss_nil)
      (pss_cons (ps_if (pt_not (pt_val (pe_call Gis_name (hr.mono (by decide)) rfl gis_name Fis_name.kp bis_name .nil pass0 (pa_cons (pv 2) pa_nil))))
        pss_no
        pss_nil)
      (pss_cons (ps_if (pt_not (pt_val (pe_call Gare_marks (hr.mono (by decide)) rfl gare_marks Fare_marks.kp bare_marks .nil pass0 (pa_cons (pv 3) pa_nil))))
        pss_no
        pss_nil)
      (pss_cons (ps_if (pt_not (pt_val (pe_call Gare_fields (hr.mono (by decide)) rfl gare_fields Fare_fields.kp bare_fields .nil pass0 (pa_cons (pv 4) pa_nil))))
        pss_no
        pss_nil)
      (pss_cons (ps_if (pt_not (pt_val (pe_call (Gare_methods M gN) (hr.mono (by decide)) rfl gare_methods Fare_methods.kp bare_methods .nil pass0 (pa_cons (pv 5) pa_nil))))
        pss_no
        pss_nil)
      (pss_cons (ps_asg (pe_tup (pa_cons (pv 1) (pa_cons (pv 2) (pa_cons (pe_callTy call_tuple_of rfl T.tup boot_tuple (pa_cons (pv 3) pa_nil)) pa_nil)))) (pg_tup rfl (pgs_cons (pg_fld (pv 0)) (pgs_cons (pg_fld (pv 0)) (pgs_cons (pg_fld (pv 0)) pgs_nil)))) (hw := no_swap3 rfl))
      (pss_one (ps_asg (pe_tup (pa_cons (pe_callTy call_tuple_of rfl T.tup boot_tuple (pa_cons (pv 4) pa_nil)) (pa_cons (pe_callTy call_tuple_of rfl T.tup boot_tuple (pa_cons (pv 5) pa_nil)) pa_nil))) (pg_tup rfl (pgs_cons (pg_fld (pv 0)) (pgs_cons (pg_fld (pv 0)) pgs_nil))) (hw := no_swap rfl))))))))), ?_⟩
    refine ⟨_, rfl, z, rfl, hz, fun H1 e1 => ⟨_, rfl, iteF ?_⟩⟩
    refine ⟨_, rfl, _, _, rfl, .str "top", by decide +kernel, fun H2 e2 => ⟨_, rfl, ?_⟩⟩
    refine ifF (by decide +kernel) ?_
    have e12 := e1.trans e2
    refine ⟨_, rfl, mk, rfl, hmk, fun H3 e3 => ⟨_, rfl, iteF ?_⟩⟩
    have e13 := e12.trans e3
    refine ⟨_, rfl, fl, rfl, hfl, fun H4 e4 => ⟨_, rfl, iteF ?_⟩⟩
    have e14 := e13.trans e4
    refine ⟨_, rfl, me, rfl, hme, fun H5 e5 => ⟨_, rfl, iteF ?_⟩⟩
    have e15 := e14.trans e5
    refine ⟨_, rfl, _, rfl, _, rfl, mk, [], rfl, .inr ⟨hmk.sq, le_line (by simp), fun t1 ht1 => ?_⟩⟩
    have e7 := Evl.Ex.new (o := .tup [.str z, .str "top", .ref mk]) ht1
    have e07 := e15.trans e7
    have ha7 := e07 _ _ ha
    refine ⟨t1, _, rfl, SqT.of upd_same, rfl, _, _, rfl, ?_⟩
    generalize upd H5 t1 (.tup [.str z, .str "top", .ref mk]) = H7 at e07 ha7
    clear e7 ht1 e15 e14 e13 e12
    refine ⟨_, rfl, a, _, dx, [], rfl, ha7, C.cl, C.n1, by decide, _, _, rfl, ?_⟩
    refine ⟨_, rfl, a, _, dx, [("own_name", .str z)], rfl, upd_same, C.cl, C.n2, by simp, _, _, rfl, ?_⟩
    refine ⟨_, rfl, a, _, dx, [("own_name", .str z), ("own_above", .str "top")], rfl, upd_same, C.cl, C.n3, by simp, rfl, ?_⟩
    have k9 : ∀ b o, b ≠ a → H7 b = some o → (upd (upd (upd H7 a (.ins (He.ga K "ClassText") dx (putF "own_name" (.str z) []))) a (.ins (He.ga K "ClassText") dx (putF "own_above" (.str "top") [("own_name", .str z)]))) a (.ins (He.ga K "ClassText") dx (putF "own_marks" (.ref mk) [("own_name", .str z), ("own_above", .str "top")]))) b = some o := fun b o hb e => by
      rw [upd_ne hb, upd_ne hb, upd_ne hb]; exact e
    have ha9 := upd_same (H := upd (upd H7 a (.ins (He.ga K "ClassText") dx (putF "own_name" (.str z) []))) a (.ins (He.ga K "ClassText") dx (putF "own_above" (.str "top") [("own_name", .str z)]))) (a := a) (o := .ins (He.ga K "ClassText") dx (putF "own_marks" (.ref mk) [("own_name", .str z), ("own_above", .str "top")]))
    generalize (upd (upd (upd H7 a (.ins (He.ga K "ClassText") dx (putF "own_name" (.str z) []))) a (.ins (He.ga K "ClassText") dx (putF "own_above" (.str "top") [("own_name", .str z)]))) a (.ins (He.ga K "ClassText") dx (putF "own_marks" (.ref mk) [("own_name", .str z), ("own_above", .str "top")]))) = H9 at k9 ha9
    refine ⟨_, rfl, fl, [], rfl, .inr ⟨hfl.sq, ?_⟩⟩
    refine ⟨_, rfl, me, [], rfl, .inr ⟨hme.sq, le_line (by simp), fun t2 ht2 => ?_⟩⟩
    have e12 : ∀ o, Evl.Ex H9 (upd H9 t2 o) := fun o => Evl.Ex.new ht2
    refine ⟨t2, _, rfl, SqT.of upd_same, rfl, _, _, rfl, ?_⟩
    refine ⟨_, rfl, a, _, dx, [("own_name", .str z), ("own_above", .str "top"), ("own_marks", .ref mk)], rfl, e12 _ _ _ ha9, C.cl, C.n4, by simp, _, _, rfl, ?_⟩
    refine ⟨_, rfl, a, _, dx, [("own_name", .str z), ("own_above", .str "top"), ("own_marks", .ref mk), ("own_fields", .ref fl)], rfl, upd_same, C.cl, C.n5, by simp, rfl, ?_⟩
    exact hQ _ (fun b o hb e => (upd_ne hb).trans ((upd_ne hb).trans (e12 _ _ _ (k9 b o hb (e07 _ _ e))))) upd_same
abbrev sformat_class : Stmt := top 40
abbrev nformat_class : List Str := ["text", "lines", "method", "mark", "name", "kind"]
theorem scformat_class : FnScope nformat_class ["text"] (defScope sformat_class) := ⟨rfl, rfl, rfl, by decide +kernel, rfl, by decide +kernel, by decide +kernel⟩
theorem okformat_class (F : FnP K "format_class" sformat_class f fd) (D : FD w K mg) (M : MethF K mg) (GF : GetF P w K mg base) (C : CtF K mg) : FnOk P w K mg base CX0 4 f fd ["text"] (spFmtZ K (He.ga K "ClassText")) := by
  have T := D.t
  obtain ⟨p1, fd1, G1, b1⟩ := GF.t1
  obtain ⟨p2, fd2, G2, b2⟩ := GF.t2
  obtain ⟨p3, fd3, G3, b3⟩ := GF.t3
  obtain ⟨p4, fd4, G4, b4⟩ := GF.t4
  obtain ⟨p5, fd5, G5, b5⟩ := GF.t5
  obtain ⟨fmethod_lines, fdmethod_lines, gmethod_lines, Fmethod_lines⟩ := D.method_lines
  have Gmethod_lines := okmethod_lines (P := P) (base := base) Fmethod_lines D
  have bmethod_lines : Binds K fdmethod_lines ["method"] [] := Fmethod_lines.bindsN fun _ _ _ _ _ _ us hl => match us, hl with | [_], _ => rfl
  refine F.ok scformat_class (fun vs H Q E h => ?_) (fun cdv A outer s H vs Q E hr h => ?_)
  · obtain ⟨x, dx, z, mk, fl, me, rfl, _⟩ := h
    rfl
  · obtain ⟨x, dx, z, mk, fl, me, rfl, hx, hz, hmk, hfl, hme, hQ⟩ := h
    refine ⟨_, PSs.nox (pss_cons (ps_set (i := 1) scformat_class.nd rfl (Or.inl rfl) (pe_lst (pa_cons (pe_op op_add_str (pe_op op_add_str (pe_op op_add_str pe_str (pe_prop (pv 0) C.cl p1 G1 (hr.mono (by decide)) b1 .nil pass0 (by rfl))) pe_str) (pe_prop (pv 0) C.cl p2 G2 (hr.mono (by decide)) b2 .nil pass0 (by rfl))) pa_nil)))
      (pss_cons (ps_expr (pe_bm PySem.F.plainAttrs_list PySem.F.slot_list_extend PySem.F.type_list_extend mt_extend (pv 1) (pa_cons (pe_lc (own := [("mark", 3)]) (g := gName 3) (tt := tYes) rfl scformat_class.nd (pi_tup (pe_prop (pv 0) C.cl p3 G3 (hr.mono (by decide)) b3 .nil pass0 (by rfl))) (blkOk_by (N := nformat_class) (sc := defScope sformat_class) (by decide +kernel)) (fun _ _ _ _ _ => (pg_name (i := 3) scformat_class.nd rfl (Or.inl rfl))) (fun _ _ _ _ _ => pts_nil) (fun _ _ _ _ _ => (pe_op op_add_str pe_str (pv 3)))) pa_nil)))
      (pss_cons (ps_expr (pe_bm PySem.F.plainAttrs_list PySem.F.slot_list_extend PySem.F.type_list_extend mt_extend (pv 1) (pa_cons (pe_lc (own := [("name", 4), ("kind", 5)]) (g := gTup K 2 (gCons (gName 4) (gCons (gName 5) gNil))) (tt := tYes) rfl scformat_class.nd (pi_tup (pe_prop (pv 0) C.cl p4 G4 (hr.mono (by decide)) b4 .nil pass0 (by rfl))) (blkOk_by (N := nformat_class) (sc := defScope sformat_class) (by decide +kernel)) (fun _ _ _ _ _ => (pg_tup rfl (pgs_cons (pg_name (i := 4) scformat_class.nd rfl (Or.inl rfl)) (pgs_cons (pg_name (i := 5) scformat_class.nd rfl (Or.inl rfl)) pgs_nil)))) (fun _ _ _ _ _ => pts_nil) (fun _ _ _ _ _ => (pe_op op_add_str (pe_op op_add_str (pe_op op_add_str pe_str (pv 4)) pe_str) (pv 5)))) pa_nil)))
      (pss_cons (ps_for PassesOwn.never rfl (pi_tup (pe_prop (pv 0) C.cl p5 G5 (hr.mono (by decide)) b5 .nil pass0 (by rfl))) (pg_name (i := 2) scformat_class.nd rfl (Or.inl rfl))
        (pss_one (ps_expr (pe_bm PySem.F.plainAttrs_list PySem.F.slot_list_extend PySem.F.type_list_extend mt_extend (pv 1) (pa_cons (pe_call (Gmethod_lines M GF) (hr.mono (by decide)) rfl gmethod_lines Fmethod_lines.kp bmethod_lines .nil pass0 (pa_cons (pv 2) pa_nil)) pa_nil)))))
      (pss_one (ps_ret (pe_join pe_str (pv 1)))))))), ?_⟩
    obtain ⟨l1, l2, l3, l4⟩ := len_class
    have n1 := (cnS_ok _ hz).1.2.1
    have a1 : ("top" : Str).length ≤ 8 := by decide +kernel
    refine ⟨_, rfl, x, dx, _, rfl, hx, x, dx, _, _, rfl, hx, rfl, _, _, rfl, rfl, le_line (by omega), _, _, rfl, rfl, le_line (by rw [app_len]; omega), _, rfl, x, dx, _, rfl, hx, x, dx, _, _, rfl, hx, rfl, _, _, rfl, rfl, le_line (by rw [app_len, app_len]; omega), le_line (by simp), fun L hL => ?_⟩
    rw [class_eq]
    have e1 := Evl.Ex.new (o := .lst [.str (joinS [classS, z, "top"])]) hL
    have hL1 := upd_same (H := H) (a := L) (o := .lst [.str (joinS [classS, z, "top"])])
    generalize upd H L (.lst [.str (joinS [classS, z, "top"])]) = H1 at e1 hL1
    refine ⟨_, rfl, .inl ⟨rfl, _, SqL.of hL1⟩, _, rfl, x, dx, _, rfl, e1 _ _ hx, x, dx, _, _, rfl, e1 _ _ hx, rfl, mk, rfl, ⟨_, hmk.sq⟩, fun D hD => ?_⟩
    refine lc_map (walk_tup (K := K) (a := mk) (xs := [])) hD (fun H' e => hmk.sq) (fun _ => .bl true) (by decide) (fun j _ _ _ h => absurd h (Nat.not_lt_zero j)) (fun j _ _ _ h => absurd h (Nat.not_lt_zero j)) ?_
    intro H2 e2 hD2
    have hL2 := e2 _ _ hL1
    refine ⟨L, D, _, _, rfl, rfl, hL2, hD2, le_line (by simp), ?_⟩
    have e12 := (e1.trans e2).mut (o := .lst ([.str (joinS [classS, z, "top"])] ++ [])) hL
    have hL3 := upd_same (H := H2) (a := L) (o := .lst ([.str (joinS [classS, z, "top"])] ++ []))
    refine ⟨_, rfl, .inl ⟨rfl, _, SqL.of hL3⟩, _, rfl, x, dx, _, rfl, e12 _ _ hx, x, dx, _, _, rfl, e12 _ _ hx, rfl, fl, rfl, ⟨_, hfl.sq⟩, fun D3 hD3 => ?_⟩
    refine lc_map (walk_tup (K := K) (a := fl) (xs := [])) hD3 (fun H' e => hfl.sq) (fun _ => .bl true) (by decide) (fun j _ _ _ h => absurd h (Nat.not_lt_zero j)) (fun j _ _ _ h => absurd h (Nat.not_lt_zero j)) ?_
    intro H4 e4 hD4
    refine ⟨L, D3, _, _, rfl, rfl, e4 _ _ hL3, hD4, le_line (by simp), ?_⟩
    have e5 := (e12.trans e4).mut (o := .lst (([.str (joinS [classS, z, "top"])] ++ []) ++ [])) hL
    have hL5 := upd_same (H := H4) (a := L) (o := .lst (([.str (joinS [classS, z, "top"])] ++ []) ++ []))
    refine ⟨_, rfl, x, dx, _, rfl, e5 _ _ hx, x, dx, _, _, rfl, e5 _ _ hx, rfl, me, rfl, ⟨_, hme.sq⟩, ?_⟩
    refine for_it (walk_tup (K := K) (a := me) (xs := [])) (fun j σ H' => H' L = some (.lst [.str (joinS [classS, z, "top"])]) ∧ ∃ u, σ = [some (.ref x), some (.ref L), u, none, none, none])
      ⟨hL5, none, rfl⟩ (fun i σ H' _ q => hme.sq) (fun j _ _ _ _ h => absurd h (Nat.not_lt_zero j)) ?_
    rintro σ H6 ⟨hL6, u, rfl⟩
    have q := hQ H6
    refine ⟨⟨_, rfl⟩, _, rfl, nlS, L, [joinS [classS, z, "top"]], rfl, rfl, .inl (SqL.of hL6), join_ok (n := 49) (B := 1000) (by simp) (fun y hy => by rw [List.mem_singleton.mp hy]; exact line_len ⟨by simp, fun u hu => by
      simp only [List.mem_cons, List.not_mem_nil, or_false] at hu
      rcases hu with rfl | rfl | rfl
      · decide +kernel
      · exact Nat.le_trans n1 (by decide)
      · exact Nat.le_trans a1 (by decide)⟩) nlS_len (by decide), ?_⟩
    exact q
end
end K50.Z

set_option Elab.async false
set_option linter.all false
set_option maxRecDepth 100000
set_option maxHeartbeats 0
/-! the known texts, the law -/
namespace K50
open PySem PySem.Spec PyProof.Rows L2 EX2 TX StX
structure LW (w : World) (K : PySem.W.Frag) (mg : Str → Option Value) : Prop where
  fd : FD w K mg
  parse_class : ∃ f fd, mg "parse_class" = some (.ref f) ∧ FnP K "parse_class" (top 44) f fd
  _law_class : ∃ f fd, mg "_law_class" = some (.ref f) ∧ FnP K "_law_class" (top 55) f fd
  _law_known : ∃ f fd, mg "_law_known" = some (.ref f) ∧ FnP K "_law_known" (top 58) f fd
  _law_source : ∃ f fd, mg "_law_source" = some (.ref f) ∧ FnP K "_law_source" sSource f fd
theorem LW.t {w : World} {K : PySem.W.Frag} {mg : Str → Option Value} (D : LW w K mg) : Txt K mg := D.fd.cd.dd.d.t
theorem LW.format_class {w : World} {K : PySem.W.Frag} {mg : Str → Option Value} (D : LW w K mg) : ∃ f fd, mg "format_class" = some (.ref f) ∧ FnP K "format_class" (top 40) f fd := D.fd.format_class
theorem LW._law_written {w : World} {K : PySem.W.Frag} {mg : Str → Option Value} (D : LW w K mg) : ∃ f fd, mg "_law_written" = some (.ref f) ∧ FnP K "_law_written" (top 57) f fd := D.fd._law_written
theorem LW._law_pick {w : World} {K : PySem.W.Frag} {mg : Str → Option Value} (D : LW w K mg) : ∃ f fd, mg "_law_pick" = some (.ref f) ∧ FnP K "_law_pick" spick f fd := D.fd.cd.dd._law_pick
theorem kb3 {K : PySem.W.Frag} {f : Addr} {fd : FuncData} (F : FunD K "__init__" "ClassText.__init__" (defArgs (inClass (top 33) 0)) (defBody (inClass (top 33) 0)) (defScope (inClass (top 33) 0)) [] (ctKw K) f fd) :
    ∃ mv : List Value, KBn K fd ["self", "name", "above", "marks", "fields", "methods"] 2 ["marks", "fields", "methods"] (fun us ws => us ++ mv ++ ws) (fun vs zs => vs ++ [.str "top"] ++ zs) :=
  FunD.kbinds0 F 2 ["marks", "fields", "methods"] [("above", .str "top")] (fun us mv ws => us ++ mv ++ ws) (by simp) (by simp) (fun r1 r2 r3 => (r1.append r2).append r3)
    fun D doc pm an cdv ct us mv ws h1 h2 h3 => match us, mv, ws, h1, h2, h3 with | [_, _], [_], [_, _, _], _, _, _ => ⟨_, _, _, _, _, _, rfl, rfl, rfl⟩
theorem kb0 {K : PySem.W.Frag} {f : Addr} {fd : FuncData} (F : FunD K "__init__" "ClassText.__init__" (defArgs (inClass (top 33) 0)) (defBody (inClass (top 33) 0)) (defScope (inClass (top 33) 0)) [] (ctKw K) f fd) :
    ∃ ds, Vals [.str "top", .ref (kdAt "marks" K), .ref (kdAt "fields" K), .ref (kdAt "methods" K)] ds ∧ Binds K fd ["self", "name", "above", "marks", "fields", "methods"] ds :=
  FunD.binds0 F 2 (by simp) rfl
    fun D doc pm an cdv ct us ks h1 h2 => match us, ks, h1, h2 with | [_, _], [_, _, _, _], _, _ => ⟨_, _, _, _, _, _, rfl, rfl, _, _, _, _, _, _, rfl, rfl, _, _, _, _, _, _, rfl, rfl, _, _, _, _, _, _, rfl, rfl, rfl⟩
/-- the known text -/
def kCode : List PyData := [.tuple (.str "call" :: [iD 1, iD 0, .str "a", .str "m", .tuple ((["b", "c[]"] : List Str).map .str), .str "top", .tuple (([0, 1] : List Nat).map iD)]), .tuple (.str "return" :: [iD 1])]
def kMt : Mt := ⟨"m", ["b", "c[]"], "top", 4, kCode⟩
def kTx : Tx := ⟨"a", "top", ["b", "c"], [("f", "a[]")], [kMt]⟩
theorem kCodP : CodP kCode := by
  refine ⟨by decide, by decide, fun d hd => ?_⟩
  simp only [kCode, List.mem_cons, List.not_mem_nil, or_false] at hd
  rcases hd with rfl | rfl
  · exact ⟨"call", "rrcfytx", _, rfl, rfl, .cons (.r 1 (by decide)) (.cons (.r 0 (by decide)) (.cons (.c "a" (by decide +kernel)) (.cons (.f "m" (by decide +kernel)) (.cons (.y ["b", "c[]"] (by decide) (by decide +kernel)) (.cons (.t "top" (by decide +kernel)) (.cons (.x [0, 1] (by decide) (by decide)) .nil)))))), by decide +kernel⟩
  · exact ⟨"return", "r", _, rfl, rfl, .cons (.r 1 (by decide)) .nil, by decide +kernel⟩
theorem kMtP : MtP kMt := ⟨by decide, by decide +kernel, by decide +kernel, .inr rfl, kCodP, by decide +kernel⟩
theorem kTxP : TxP kTx := ⟨by decide +kernel, by decide +kernel, by decide +kernel, ⟨by decide +kernel, by decide +kernel⟩, ⟨by decide +kernel, fun m h => by rw [List.mem_singleton.mp h]; exact kMtP⟩⟩
def kL1 : List Str := ["class a top", "mark b", "mark c", "field f a[]", "method m 4 top b c[]"]
def kL2 : List Str := ["call 1 0 a m b,c[] top 0,1", "return 1", "end"]
theorem kText : (linesT kTx).map joinS = kL1 ++ kL2 := by decide +kernel
theorem zText : joinS [classS, "z", "top"] = "class z top" := by decide +kernel
def spKnown : Sp := fun vs H Q _ => vs = [] ∧ ∀ H', Q (.bl true) H'
section
variable {P : Program} {w : World} {K : PySem.W.Frag} {mg : Str → Option Value} {base : Heap} {f : Addr} {fd : FuncData}
abbrev s_law_known : Stmt := top 58
abbrev n_law_known : List Str := ["_law_code_here", "_law_text", "_law_lines", "_law_due"]
theorem sc_law_known : FnScope n_law_known [] (defScope s_law_known) := ⟨rfl, rfl, rfl, by decide +kernel, rfl, by decide +kernel, by decide +kernel⟩
theorem ok_law_known (F : FnP K "_law_known" s_law_known f fd) (D : LW w K mg) (R : RdF K mg) (M : MethF K mg) (XF : ExcF P w K mg base) (IF : InsF K (He.ga K "Method")) (GF : GetF P w K mg base) (C : CtF K mg) (IC : InsF K (He.ga K "ClassText")) : FnOk P w K mg base CX0 10 f fd [] spKnown := by
  have T := D.t
  obtain ⟨fdI, FI⟩ := M.init
  have GI : FnOk P w K mg base (L2.CX P w) 6 _ fdI ["self", "name", "params", "result", "size", "code"] (spInit (He.ga K "Method")) := (ok_initX FI D.fd.cd.dd.d M XF).imp spInit_X
  have bI : Binds K fdI ["self", "name", "params", "result", "size", "code"] [] := FI.bindsN fun _ _ _ _ _ _ us hl => match us, hl with | [_, _, _, _, _, _], _ => rfl
  obtain ⟨fdT, FT⟩ := C.init
  have GT := okClassText___init__ (P := P) (w := w) (base := base) FT D.fd.cd M IF GF.m1 C
  have GZ := Z.okClassText___init__ (P := P) (w := w) (base := base) FT D.fd.cd M GF.m1 C
  obtain ⟨mv, kb⟩ := kb3 FT
  obtain ⟨dz, vz, bz⟩ := kb0 FT
  obtain ⟨fdQ, FQ⟩ := C.eq
  have GQ := okClassText___eq__ (P := P) (w := w) (base := base) FQ D.fd.cd M IF C IC
  have bQ : Binds K fdQ ["self", "other"] [] := FunD.bindsN FQ fun _ _ _ _ _ _ us hl => match us, hl with | [_, _], _ => rfl
  obtain ⟨fformat_class, fdformat_class, gformat_class, Fformat_class⟩ := D.format_class
  have Gformat_class := okformat_class (P := P) (base := base) Fformat_class D.fd M GF C
  have bformat_class : Binds K fdformat_class ["text"] [] := Fformat_class.bindsN fun _ _ _ _ _ _ us hl => match us, hl with | [_], _ => rfl
  obtain ⟨fparse_class, fdparse_class, gparse_class, Fparse_class⟩ := D.parse_class
  have Gparse_class := okparse_class (P := P) (base := base) Fparse_class D.fd R M XF IF GF C
  have bparse_class : Binds K fdparse_class ["text"] [] := Fparse_class.bindsN fun _ _ _ _ _ _ us hl => match us, hl with | [_], _ => rfl
  refine F.ok sc_law_known (fun vs H Q E h => ?_) (fun cdv A outer s H vs Q E hr h => ?_)
  · obtain ⟨rfl, _⟩ := h
    rfl
  · obtain ⟨rfl, hQ⟩ := h
    refine ⟨_, PSs.nox (pss_cons (ps_set (i := 0) sc_law_known.nd rfl (Or.inl rfl) (pe_lst (pa_cons (pe_tup (pa_cons pe_str (pa_cons pe_int (pa_cons pe_int (pa_cons pe_str (pa_cons pe_str (pa_cons (pe_tup (pa_cons pe_str (pa_cons pe_str pa_nil))) (pa_cons pe_str (pa_cons (pe_tup (pa_cons pe_int (pa_cons pe_int pa_nil))) pa_nil))))))))) (pa_cons (pe_tup (pa_cons pe_str (pa_cons pe_int pa_nil))) pa_nil))))
      (pss_cons (ps_set (i := 1) sc_law_known.nd rfl (Or.inl rfl) (pe_makeK (n := 1) C.mkr GT (hr.mono (by decide)) rfl C.hm kb pass0 (pa_cons pe_str pa_nil) (pk_cons (pe_lst (pa_cons pe_str (pa_cons pe_str pa_nil))) (pk_cons (pe_lst (pa_cons (pe_tup (pa_cons pe_str (pa_cons pe_str pa_nil))) pa_nil)) (pk_cons (pe_lst (pa_cons (pe_make M.mkr GI (hr.mono (by decide)) rfl M.hm bI .nil passL (pa_cons pe_str (pa_cons (pe_tup (pa_cons pe_str (pa_cons pe_str pa_nil))) (pa_cons pe_str (pa_cons pe_int (pa_cons (pv 0) pa_nil)))))) pa_nil)) pk_nil)))))
      (pss_cons (ps_set (i := 2) sc_law_known.nd rfl (Or.inl rfl) (pe_lst (pa_cons pe_str (pa_cons pe_str (pa_cons pe_str (pa_cons pe_str (pa_cons pe_str pa_nil)))))))
      (pss_cons (ps_set (i := 3) sc_law_known.nd rfl (Or.inl rfl) (pe_join pe_str (pe_op op_cat (pv 2) (pe_lst (pa_cons pe_str (pa_cons pe_str (pa_cons pe_str pa_nil)))))))
      (pss_one (ps_ret (pe_and (pe_cmpR op_eq (pe_call Gformat_class (hr.mono (by decide)) rfl gformat_class Fformat_class.kp bformat_class .nil pass0 (pa_cons (pv 1) pa_nil)) (pv 3) (nomark _)) (pe_and (pe_cmpR (op_eqI GQ C.em.at_ C.em.fn bQ (hr.mono (by decide))) (pe_call Gparse_class (hr.mono (by decide)) rfl gparse_class Fparse_class.kp bparse_class .nil pass0 (pa_cons (pv 3) pa_nil)) (pv 1) (nomark _)) (pe_one (pe_cmpR op_eq (pe_call (Z.okformat_class (P := P) (base := base) Fformat_class D.fd M GF C) (hr.mono (by decide)) rfl gformat_class Fformat_class.kp bformat_class .nil pass0 (pa_cons (pe_make C.mkr GZ (hr.mono (by decide)) rfl C.hm bz vz pass0 (pa_cons pe_str pa_nil)) pa_nil)) pe_str (nomark _))))))))))), ?_⟩
    refine ⟨le_line (by simp), fun t1 ht1 => ⟨le_line (by simp), fun t2 ht2 => ⟨le_line (by simp), fun t3 ht3 => ⟨le_line (by simp), fun t4 ht4 => ⟨le_line (by simp), fun L hL => ?_⟩⟩⟩⟩⟩
    have f1 := Evl.Ex.new (o := .tup [.str "b", .str "c[]"]) ht1
    have f2 := Evl.Ex.new (o := .tup [.int 0, .int 1]) ht2
    have f3 := Evl.Ex.new (o := .tup [.str "call", .int 1, .int 0, .str "a", .str "m", .ref t1, .str "top", .ref t2]) ht3
    have f4 := Evl.Ex.new (o := .tup [.str "return", .int 1]) ht4
    have f5 := Evl.Ex.new (o := .lst [.ref t3, .ref t4]) hL
    have h1 := f5 _ _ (f4 _ _ (f3 _ _ (f2 _ _ (upd_same (H := H) (a := t1) (o := .tup [.str "b", .str "c[]"])))))
    have h2 := f5 _ _ (f4 _ _ (f3 _ _ (upd_same (H := upd H t1 (.tup [.str "b", .str "c[]"])) (a := t2) (o := .tup [.int 0, .int 1]))))
    have h3 := f5 _ _ (f4 _ _ (upd_same (H := upd (upd H t1 (.tup [.str "b", .str "c[]"])) t2 (.tup [.int 0, .int 1])) (a := t3) (o := .tup [.str "call", .int 1, .int 0, .str "a", .str "m", .ref t1, .str "top", .ref t2])))
    have h4 := f5 _ _ (upd_same (H := upd (upd (upd H t1 (.tup [.str "b", .str "c[]"])) t2 (.tup [.int 0, .int 1])) t3 (.tup [.str "call", .int 1, .int 0, .str "a", .str "m", .ref t1, .str "top", .ref t2])) (a := t4) (o := .tup [.str "return", .int 1]))
    have h5 := upd_same (H := upd (upd (upd (upd H t1 (.tup [.str "b", .str "c[]"])) t2 (.tup [.int 0, .int 1])) t3 (.tup [.str "call", .int 1, .int 0, .str "a", .str "m", .ref t1, .str "top", .ref t2])) t4 (.tup [.str "return", .int 1])) (a := L) (o := .lst [.ref t3, .ref t4])
    generalize upd (upd (upd (upd (upd H t1 (.tup [.str "b", .str "c[]"])) t2 (.tup [.int 0, .int 1])) t3 (.tup [.str "call", .int 1, .int 0, .str "a", .str "m", .ref t1, .str "top", .ref t2])) t4 (.tup [.str "return", .int 1])) L (.lst [.ref t3, .ref t4]) = H1 at h1 h2 h3 h4 h5
    clear f1 f2 f3 f4 f5 ht1 ht2 ht3 ht4 hL
    have dL : DqAll H1 [.ref t3, .ref t4] kCode := .cons (.tup h3 (.cons (.str _) (.cons (.int _) (.cons (.int _) (.cons (.str _) (.cons (.str _) (.cons (.tup h1 (.cons (.str _) (.cons (.str _) .nil))) (.cons (.str _) (.cons (.tup h2 (.cons (.int _) (.cons (.int _) .nil))) .nil))))))))) (.cons (.tup h4 (.cons (.str _) (.cons (.int _) .nil))) .nil)
    clear h1 h2 h3 h4
    -- the text
    refine ⟨le_line (by simp), fun mk hmk => ⟨le_line (by simp), fun t5 ht5 => ⟨le_line (by simp), fun fl hfl => ⟨le_line (by simp), fun t6 ht6 => ?_⟩⟩⟩⟩
    have f1 := Evl.Ex.new (o := .lst [.str "b", .str "c"]) hmk
    have f2 := Evl.Ex.new (o := .tup [.str "f", .str "a[]"]) ht5
    have f3 := Evl.Ex.new (o := .lst [.ref t5]) hfl
    have f4 := Evl.Ex.new (o := .tup [.str "b", .str "c[]"]) ht6
    have hmk2 := f4 _ _ (f3 _ _ (f2 _ _ (upd_same (H := H1) (a := mk) (o := .lst [.str "b", .str "c"]))))
    have ht52 := f4 _ _ (f3 _ _ (upd_same (H := upd H1 mk (.lst [.str "b", .str "c"])) (a := t5) (o := .tup [.str "f", .str "a[]"])))
    have hfl2 := f4 _ _ (upd_same (H := upd (upd H1 mk (.lst [.str "b", .str "c"])) t5 (.tup [.str "f", .str "a[]"])) (a := fl) (o := .lst [.ref t5]))
    have ht62 := upd_same (H := upd (upd (upd H1 mk (.lst [.str "b", .str "c"])) t5 (.tup [.str "f", .str "a[]"])) fl (.lst [.ref t5])) (a := t6) (o := .tup [.str "b", .str "c[]"])
    have e12 := ((f1.trans f2).trans f3).trans f4
    generalize upd (upd (upd (upd H1 mk (.lst [.str "b", .str "c"])) t5 (.tup [.str "f", .str "a[]"])) fl (.lst [.ref t5])) t6 (.tup [.str "b", .str "c[]"]) = H2 at hmk2 ht52 hfl2 ht62 e12
    clear f1 f2 f3 f4 hmk ht5 hfl ht6
    refine ⟨_, rfl, ?_⟩
    intro x dx hx hdx hne
    have eX : Evl.Ex H2 (upd (upd H2 dx (.own x)) x (.ins (He.ga K "Method") dx [])) := fun b o e => by
      rw [upd_ne (by rintro rfl; rw [hx] at e; cases e), upd_ne (by rintro rfl; rw [hdx] at e; cases e)]; exact e
    obtain ⟨dp, hdp, hparts⟩ := parts_of (m := kMt) (H := upd (upd H2 dx (.own x)) x (.ins (He.ga K "Method") dx [])) (p := .ref t6) (c := .ref L) kMtP (by show ("m" : Str) ∈ fS; decide +kernel) (.inr (.tup (eX _ _ ht62) (.cons (.str "b") (.cons (.str "c[]") .nil)))) (.lst (eX _ _ (e12 _ _ h5)) ((dL.ext e12).ext eX))
    refine ⟨x, dx, _, _, _, _, _, _, dp, _, _, _, rfl, upd_same, hparts, fun H3 p' c' k3 hx3 hp3 hc3 => ⟨rfl, le_line (by simp), fun me hme => ?_⟩⟩
    have e23 : Evl.Ex H2 H3 := fun b o e => k3 b o (by rintro rfl; rw [hx] at e; cases e) (eX _ _ e)
    have hmt : MtAt (He.ga K "Method") H3 (.ref x) kMt := ⟨x, dx, p', c', rfl, hx3, (by have e : itemsOf dp = _ := hdp; rw [e] at hp3; exact hp3), hc3⟩
    have e34 := Evl.Ex.new (o := .lst [.ref x]) hme
    have hme4 := upd_same (H := H3) (a := me) (o := .lst [.ref x])
    generalize upd H3 me (.lst [.ref x]) = H4 at e34 hme4
    have e24 := e23.trans e34
    refine ⟨rfl, rfl, fun y dy hy hdy hne2 => ?_⟩
    have eY : Evl.Ex H4 (upd (upd H4 dy (.own y)) y (.ins (He.ga K "ClassText") dy [])) := fun b o e => by
      rw [upd_ne (by rintro rfl; rw [hy] at e; cases e), upd_ne (by rintro rfl; rw [hdy] at e; cases e)]; exact e
    refine ⟨y, dy, .ref mk, .ref fl, me, .list ((["b", "c"] : List Str).map .str), .list [fldD ("f", "a[]")], [.ref x], kTx, rfl, upd_same, .lst (eY _ _ (e24 _ _ hmk2)) (.cons (.str _) (.cons (.str _) .nil)), rfl, by decide +kernel, .lst (eY _ _ (e24 _ _ hfl2)) (.cons (.tup (eY _ _ (e24 _ _ ht52)) (.cons (.str _) (.cons (.str _) .nil))) .nil), rfl, by decide +kernel, .inl (eY _ _ hme4), .cons ((hmt.ext e34).ext eY) .nil, kTxP, fun H5 k5 ht => ⟨rfl, ?_⟩⟩
    clear hmt hme hmk2 ht52 hfl2 ht62
    -- its lines
    refine ⟨le_line (by simp), fun M0 hM => ⟨⟨_, rfl⟩, _, rfl, le_line (by simp), fun b hb => ?_⟩⟩
    have g1 := Evl.Ex.new (o := .lst (kL1.map V.str)) hM
    have g2 := Evl.Ex.new (o := .lst (kL2.map V.str)) hb
    refine ⟨M0, b, kL1.map V.str, kL2.map V.str, rfl, rfl, g2 _ _ upd_same, upd_same, le_line (by decide), fun c hc => ?_⟩
    have g3 := Evl.Ex.new (o := .lst (kL1.map V.str ++ kL2.map V.str)) hc
    have ht2 := ((ht.ext g1).ext g2).ext g3
    refine ⟨nlS, c, kL1 ++ kL2, rfl, rfl, .inl (SqL.of (by rw [upd_same, List.map_append])), by decide +kernel, ?_⟩
    rw [show Txt.join nlS (kL1 ++ kL2) = textT kTx from by rw [← kText]; rfl]
    refine ⟨_, rfl, .ref y, kTx, rfl, ht2, kTxP, fun H7 e7 => ⟨_, rfl, rfl, _, rfl, ?_⟩⟩
    refine ifT (decide_eq_true rfl) ?_
    refine ⟨_, rfl, kTx, rfl, kTxP, fun v H8 e8 ht8 => ⟨_, rfl, ?_⟩⟩
    have ht0 := (ht2.ext e7).ext e8
    have a1 := ht8
    have a2 := ht0
    obtain ⟨x1, d1, m1, l1, n1, y1, rfl, i1, _⟩ := a1
    obtain ⟨x2, d2, m2, l2, n2, y2, e2, i2, _⟩ := a2
    cases e2
    refine ⟨x1, d1, _, y, rfl, rfl, i1, .inl ⟨_, _, i2⟩, x1, y, rfl, ⟨kTx, ht8, ht0, kTxP⟩, fun H9 e9 => ⟨true, rfl, ?_⟩⟩
    refine ⟨_, rfl, ifT rfl ?_⟩
    have hzc : ("z" : Str) ∈ cnS := by decide +kernel
    intro x3 dx3 hx3 hdx3 hne3
    refine ⟨x3, dx3, "z", kdAt "marks" K, kdAt "fields" K, kdAt "methods" K, rfl, upd_same, hzc, Z.KT.of C.e1, Z.KT.of C.e2, Z.KT.of C.e3, fun H10 k10 hz10 => ⟨rfl, x3, dx3, "z", kdAt "marks" K, kdAt "fields" K, kdAt "methods" K, rfl, hz10, hzc, Z.KT.of C.e1, Z.KT.of C.e2, Z.KT.of C.e3, fun H11 => ⟨rfl, ?_⟩⟩⟩
    rw [zText, decide_eq_true rfl]
    exact hQ H11
def spLaw (K : PySem.W.Frag) : Sp := fun vs H Q _ => ∃ (a : Addr) (ns : List Int), vs = [.ref a] ∧ SqL K H a (ns.map V.int) ∧ ns.length ≤ 100000 ∧ ∀ H', Q (.bl true) H'
theorem sqL_lx {K : PySem.W.Frag} {H H' : Hp} {a : Addr} {xs : List V} (e : Evl.Ex H H') (h : SqL K H a xs) : SqL K H' a xs := by
  rcases h with (h | ⟨o, h⟩) | h
  · exact .inl (.inl (e _ _ h))
  · exact .inl (.inr ⟨o, e _ _ h⟩)
  · exact .inr h
theorem ok_law_source (F : FnP K "_law_source" sSource f fd) (D : LW w K mg) : FnOk P w K mg base CX0 1 f fd ["_law_script", "_law_turn"] (spSource K) := ok_source F D.t
abbrev slaw : Stmt := top 59
abbrev nlaw : List Str := ["_law_script", "_law_turn", "_law_source_here", "_law_attempt", "_law_text", "_law_written_here"]
theorem sclaw : FnScope nlaw ["_law_script"] (defScope slaw) := ⟨rfl, rfl, rfl, by decide +kernel, rfl, by decide +kernel, by decide +kernel⟩
theorem oklaw (F : FnP K "law" slaw f fd) (D : LW w K mg) (R : RdF K mg) (M : MethF K mg) (XF : ExcF P w K mg base) (IF : InsF K (He.ga K "Method")) (GF : GetF P w K mg base) (C : CtF K mg) (IC : InsF K (He.ga K "ClassText")) : FnOk P w K mg base CX0 11 f fd ["_law_script"] (spLaw K) := by
  have T := D.t
  obtain ⟨fdQ, FQ⟩ := C.eq
  have GQ := okClassText___eq__ (P := P) (w := w) (base := base) FQ D.fd.cd M IF C IC
  have bQ : Binds K fdQ ["self", "other"] [] := FunD.bindsN FQ fun _ _ _ _ _ _ us hl => match us, hl with | [_, _], _ => rfl
  obtain ⟨f_law_source, fd_law_source, g_law_source, F_law_source⟩ := D._law_source
  have G_law_source := ok_law_source (P := P) (base := base) F_law_source D
  have b_law_source : Binds K fd_law_source ["_law_script", "_law_turn"] [] := F_law_source.bindsN fun _ _ _ _ _ _ us hl => match us, hl with | [_, _], _ => rfl
  obtain ⟨f_law_class, fd_law_class, g_law_class, F_law_class⟩ := D._law_class
  have G_law_class := ok_law_class (P := P) (base := base) F_law_class D.fd.cd.dd D.fd.cd M XF IF GF C
  have b_law_class : Binds K fd_law_class ["_law_source_here", "_law_name"] [] := F_law_class.bindsN fun _ _ _ _ _ _ us hl => match us, hl with | [_, _], _ => rfl
  obtain ⟨f_law_pick, fd_law_pick, g_law_pick, F_law_pick⟩ := D._law_pick
  have G_law_pick := ok_law_pick (P := P) (base := base) F_law_pick D.fd.cd.dd
  have b_law_pick : Binds K fd_law_pick ["_law_source_here", "_law_items"] [] := F_law_pick.bindsN fun _ _ _ _ _ _ us hl => match us, hl with | [_, _], _ => rfl
  obtain ⟨fformat_class, fdformat_class, gformat_class, Fformat_class⟩ := D.format_class
  have Gformat_class := okformat_class (P := P) (base := base) Fformat_class D.fd M GF C
  have bformat_class : Binds K fdformat_class ["text"] [] := Fformat_class.bindsN fun _ _ _ _ _ _ us hl => match us, hl with | [_], _ => rfl
  obtain ⟨fparse_class, fdparse_class, gparse_class, Fparse_class⟩ := D.parse_class
  have Gparse_class := okparse_class (P := P) (base := base) Fparse_class D.fd R M XF IF GF C
  have bparse_class : Binds K fdparse_class ["text"] [] := Fparse_class.bindsN fun _ _ _ _ _ _ us hl => match us, hl with | [_], _ => rfl
  obtain ⟨f_law_written, fd_law_written, g_law_written, F_law_written⟩ := D._law_written
  have G_law_written := ok_law_written (P := P) (base := base) F_law_written D.fd M GF C
  have b_law_written : Binds K fd_law_written ["_law_text"] [] := F_law_written.bindsN fun _ _ _ _ _ _ us hl => match us, hl with | [_], _ => rfl
  obtain ⟨f_law_known, fd_law_known, g_law_known, F_law_known⟩ := D._law_known
  have G_law_known := ok_law_known (P := P) (base := base) F_law_known D R M XF IF GF C IC
  have b_law_known : Binds K fd_law_known [] [] := F_law_known.bindsN fun _ _ _ _ _ _ us hl => match us, hl with | [], _ => rfl
  refine F.ok sclaw (fun vs H Q E h => ?_) (fun cdv A outer s H vs Q E hr h => ?_)
  · obtain ⟨a, ns, rfl, _⟩ := h
    rfl
  · obtain ⟨a, ns, rfl, hS, hns, hQ⟩ := h
    refine ⟨_, PSs.nox (pss_cons (ps_for PassesOwn.never rfl (pi_range1 rfl T.rng (pa_cons (pe_callB (call_max2 rfl) rfl T.max boot_max (pa_cons pe_int (pa_cons (pe_callB (call_min2 rfl) rfl T.min boot_min (pa_cons (pe_callB call_len rfl T.len boot_len (pa_cons (pv 0) pa_nil)) (pa_cons pe_int pa_nil))) pa_nil))) pa_nil)) (pg_name (i := 1) sclaw.nd rfl (Or.inl rfl))
        (pss_cons (ps_set (i := 2) sclaw.nd rfl (Or.inl rfl) (pe_call G_law_source (hr.mono (by decide)) rfl g_law_source F_law_source.kp b_law_source .nil pass0 (pa_cons (pv 0) (pa_cons (pv 1) pa_nil))))
        (pss_one (ps_for PassesOwn.never rfl (pi_range1 rfl T.rng (pa_cons pe_int pa_nil)) (pg_name (i := 3) sclaw.nd rfl (Or.inl rfl))
          (pss_cons (ps_set (i := 4) sclaw.nd rfl (Or.inl rfl) (pe_call G_law_class (hr.mono (by decide)) rfl g_law_class F_law_class.kp b_law_class .nil pass0 (pa_cons (pv 2) (pa_cons (pe_call G_law_pick (hr.mono (by decide)) rfl g_law_pick F_law_pick.kp b_law_pick .nil pass0 (pa_cons (pv 2) (pa_cons (pe_lst (pa_cons pe_str (pa_cons pe_str (pa_cons pe_str pa_nil)))) pa_nil))) pa_nil))))
          (pss_cons (ps_set (i := 5) sclaw.nd rfl (Or.inl rfl) (pe_call Gformat_class (hr.mono (by decide)) rfl gformat_class Fformat_class.kp bformat_class .nil pass0 (pa_cons (pv 4) pa_nil)))
          (pss_one (ps_if (PW.pt (pw_or (pt_cmpR op_ne (pv 5) (pe_call G_law_written (hr.mono (by decide)) rfl g_law_written F_law_written.kp b_law_written .nil pass0 (pa_cons (pv 4) pa_nil)) (nomark _)) (pw_or1 (pt_cmpR (op_neI GQ C.ne C.em.at_ C.em.fn IC.hm bQ (hr.mono (by decide))) (pe_call Gparse_class (hr.mono (by decide)) rfl gparse_class Fparse_class.kp bparse_class .nil pass0 (pa_cons (pv 5) pa_nil)) (pv 4) (nomark _)))))
            (pss_one (ps_ret pe_bl))
            pss_nil))))))))
      (pss_one (ps_ret (pe_call0 G_law_known (hr.mono (by decide)) rfl g_law_known F_law_known.kp b_law_known .nil pass0)))), ?_⟩
    have hmax : ∀ m : Int, m ≤ 6 → (if m > 1 then m else 1) ≤ 6 ∧ 1 ≤ (if m > 1 then m else 1) := fun m hm => by split <;> omega
    have hmin : (if (6 : Int) < ((ns.map V.int).length : Int) then (6 : Int) else ((ns.map V.int).length : Int)) ≤ 6 := by split <;> omega
    obtain ⟨hj1, hj2⟩ := hmax _ hmin
    refine ⟨_, rfl, _, _, rfl, Or.inl ⟨_, hS, rfl⟩, _, _, rfl, _, _, rfl, _, rfl, ?_, ?_, ?_⟩
    · exact Int.le_trans (by decide) hj2
    · exact Int.lt_of_le_of_lt hj1 (by decide)
    generalize (if (if (6 : Int) < ((ns.map V.int).length : Int) then (6 : Int) else ((ns.map V.int).length : Int)) > 1 then (if (6 : Int) < ((ns.map V.int).length : Int) then (6 : Int) else ((ns.map V.int).length : Int)) else 1) = J at hj1 hj2
    refine for_it walk_range (fun i σ H1 => Evl.Ex H H1 ∧ ∃ v1 v2 v3 v4 v5, σ = [some (.ref a), v1, v2, v3, v4, v5]) ⟨Evl.Ex.refl _, none, none, none, none, none, rfl⟩ (fun _ _ _ _ _ => trivial) ?_ ?_
    · rintro i xi σ H1 H2 hi ⟨eN, v1, v2, v3, v4, v5, rfl⟩ ⟨rfl, rfl⟩
      have hi8 : (i : Int) < 6 := by omega
      refine ⟨_, rfl, _, rfl, a, ns, 0 + (i : Int), rfl, sqL_lx eN hS, by omega, by omega, fun p N Sd hp hN hS1 hS2 => ?_⟩
      have sc0 : Sc p (upd H2 p (.lst [.int N, .int Sd])) := ⟨N, Sd, upd_same, hN, hS1, hS2⟩
      have back : ∀ H', Lx p (upd H2 p (.lst [.int N, .int Sd])) H' → Evl.Ex H2 H' := fun H' l => Lx.back (H1 := H2) hp l
      generalize (upd H2 p (.lst [.int N, .int Sd])) = H3 at sc0 back
      refine ⟨_, rfl, by decide, by decide, ?_⟩
      refine for_it walk_range (fun i σ H1 => Lx p H3 H1 ∧ ∃ v1 v3 v4 v5, σ = [some (.ref a), v1, some (.ref p), v3, v4, v5]) ⟨Lx.refl sc0, _, _, _, _, rfl⟩ (fun _ _ _ _ _ => trivial) ?_ ?_
      · rintro j xj σ H4 H5 hj ⟨l4, v1, v3, v4, v5, rfl⟩ ⟨rfl, rfl⟩
        refine ⟨_, rfl, _, rfl, le_line (by simp), fun b hb => ?_⟩
        have e1 := Evl.Ex.new (o := .lst [.str "a", .str "b", .str "zzzzzzzz"]) hb
        refine ⟨p, b, _, rfl, l4.sc.ex e1, l4.sc.ne hb, upd_same, by simp, by simp, fun x H6 hx l6 => ?_⟩
        obtain ⟨z, rfl, hz⟩ := pickS (zs := ["a", "b", "zzzzzzzz"]) (S := cnS) (by decide +kernel) hx
        refine ⟨p, z, rfl, hz, l6.sc, fun v T H7 l7 hv hT => ?_⟩
        have l37 := ((l4.then e1).trans l6).trans l7
        refine ⟨_, rfl, v, T, rfl, hv, hT, fun H8 e8 => ⟨_, rfl, _, rfl, v, T, rfl, hv.ext e8, hT, fun H9 e9 => ?_⟩⟩
        refine ⟨rfl, _, rfl, ifF (by rw [decide_eq_true rfl]; rfl) ?_⟩
        refine ⟨_, rfl, T, rfl, hT, fun v2 H10 e10 hv2 => ⟨_, rfl, ?_⟩⟩
        have hv0 := ((hv.ext e8).ext e9).ext e10
        have a1 := hv2
        have a2 := hv0
        obtain ⟨x1, d1, m1, k1, n1, y1, rfl, i1, _⟩ := a1
        obtain ⟨x2, d2, m2, k2, n2, y2, rfl, i2, _⟩ := a2
        refine ⟨x1, d1, _, x2, d2, _, rfl, rfl, i1, i2, x1, x2, rfl, ⟨T, hv2, hv0, hT⟩, fun H11 e11 => ⟨true, rfl, _, rfl, ifF rfl ?_⟩⟩
        exact ⟨l37.then (((e8.trans e9).trans e10).trans e11), _, _, _, _, rfl⟩
      · rintro σ H5 ⟨l5, v1, v3, v4, v5, rfl⟩
        exact ⟨eN.trans (back _ l5), _, _, _, _, _, rfl⟩
    · rintro σ H1 ⟨eN, v1, v2, v3, v4, v5, rfl⟩
      exact ⟨rfl, fun H' => hQ H'⟩
end
end K50

set_option Elab.async false
set_option linter.all false
set_option maxRecDepth 100000
set_option maxHeartbeats 0
namespace EX2
open PySem PySem.Spec PyProof.Rows L2
theorem SuF.binds {P : Program} {K : PySem.W.Frag} {qual : Str} {st : Stmt} {C f : Addr} {fd : FuncData} {ps : List Str} (F : SuF P K qual st C f fd)
    (h : ∀ (doc pm ctv : Value) (cc c : Addr) (us : List Value), us.length = ps.length → bindArgs ((NdefX.NF.mk "__init__" qual (defArgs st) (defBody st) (defScope st) [("__class__", cc)] c).fd doc pm ctv) ⟨us, []⟩ = pure (ps.zip us)) : Binds K fd ps [] := by
  obtain ⟨oc, od, osl, doc, pm, ctv, cc, c, ocl, occ, vs, file, tf, rfl, _⟩ := F.ex
  exact .all (h doc pm ctv cc c)
theorem any_free {K : PySem.W.Frag} (hb : bltB K = true) : PySem.W.nsIn K cStatics "thirdparty.any" = some none := by
  unfold bltB at hb
  simp only [Bool.and_eq_true] at hb
  exact He.eqO_ok hb.2.2.1
end EX2
namespace K50

open PySem PySem.Spec PyProof.Rows L2
theorem empB_ok {K : PySem.W.Frag} {x : Str} (h : empB K x = true) : SqT K (fun _ => none) (kdAt x K) [] := by
  unfold empB at h
  split at h
  · rename_i c dd its n kk e
    rw [Bool.and_eq_true, decide_eq_true_eq, decide_eq_true_eq] at h
    refine .inr ⟨_, its, _, e, by rw [h.1], rfl, by rw [h.2]; exact Nat.zero_le _, ?_⟩
    have : its = #[] := Array.size_eq_zero_iff.mp h.2
    rw [this]
    exact .nil
  · cases h
abbrev PP : Program := RW.prog
theorem htop : (PP.main.scope.names.lookup ("super" : Str)).isSome = false := by decide +kernel
theorem facts {w : World} {K : PySem.W.Frag} {h : Heap} {mg : Str → Option Value} {f : Addr} (X : K.In h) (G : h.Ns mainGlobals mg) (hfa : mg ("law" : Str) = some (.ref f)) (c : EX2.SaysZ fa fn ts xs pds ex w K) :
    ∃ fd : FuncData, (∀ (s : Shared) (v : Value), BindsTo s fd ⟨[v], []⟩ [("_law_script", v)]) ∧ ∀ base : Heap, K.In base → base.Ns mainGlobals mg → FnOk PP w K mg base CX0 11 f fd ["_law_script"] (spLaw K) := by
  have d := c.t.d
  have hx := c.more
  unfold ex at hx
  obtain ⟨hTab, hx⟩ := Bool.and_eq_true_iff.mp hx
  obtain ⟨hProp, hx⟩ := Bool.and_eq_true_iff.mp hx
  obtain ⟨hx, hIns⟩ := Bool.and_eq_true_iff.mp hx
  obtain ⟨hb, hx⟩ := Bool.and_eq_true_iff.mp hx
  obtain ⟨hnod, hC⟩ := Bool.and_eq_true_iff.mp hx
  unfold insB at hIns
  obtain ⟨hI1, hIns⟩ := Bool.and_eq_true_iff.mp hIns
  obtain ⟨hI2, hIns⟩ := Bool.and_eq_true_iff.mp hIns
  obtain ⟨hPC, hEm⟩ := Bool.and_eq_true_iff.mp hIns
  have hB : EX2.bltB K = true := by
    have h2 := hb
    unfold EX2.sudB at h2
    rw [Bool.and_eq_true] at h2
    exact h2.1
  obtain ⟨f0, F0⟩ := d.def_ 0 (d := dfn "_wall" 0) rfl
  obtain ⟨f1, F1⟩ := d.def_ 1 (d := dfn "is_integer" 9) rfl
  obtain ⟨f2, F2⟩ := d.def_ 2 (d := dfn "is_in_range" 10) rfl
  obtain ⟨f3, F3⟩ := d.def_ 3 (d := dfn "is_name" 11) rfl
  obtain ⟨f4, F4⟩ := d.def_ 4 (d := dfn "is_type" 12) rfl
  obtain ⟨f5, F5⟩ := d.def_ 5 (d := dfn "is_sequence" 13) rfl
  obtain ⟨f6, F6⟩ := d.def_ 6 (d := dfn "fits" 19) rfl
  obtain ⟨f7, F7⟩ := d.def_ 7 (d := dfn "is_instruction" 20) rfl
  obtain ⟨f8, F8⟩ := d.def_ 8 (d := dfn "drawers_in" 21) rfl
  obtain ⟨f9, F9⟩ := d.def_ 9 (d := dfn "targets_in" 22) rfl
  obtain ⟨f10, F10⟩ := d.def_ 10 (d := dfn "is_code" 23) rfl
  obtain ⟨f11, F11⟩ := d.def_ 11 (d := dfn "is_size" 24) rfl
  obtain ⟨f12, F12⟩ := d.def_ 12 (d := dfn "is_class_name" 28) rfl
  obtain ⟨f13, F13⟩ := d.def_ 13 (d := dfn "are_marks" 29) rfl
  obtain ⟨f14, F14⟩ := d.def_ 14 (d := dfn "is_field" 30) rfl
  obtain ⟨f15, F15⟩ := d.def_ 15 (d := dfn "are_fields" 31) rfl
  obtain ⟨f16, F16⟩ := d.def_ 16 (d := dfn "are_methods" 32) rfl
  obtain ⟨f17, F17⟩ := d.def_ 17 (d := dfn "number_of" 37) rfl
  obtain ⟨f18, F18⟩ := d.def_ 18 (d := dfn "item_text" 38) rfl
  obtain ⟨f19, F19⟩ := d.def_ 19 (d := dfn "method_lines" 39) rfl
  obtain ⟨f20, F20⟩ := d.def_ 20 (d := dfn "format_class" 40) rfl
  obtain ⟨f21, F21⟩ := d.def_ 21 (d := dfn "item_of" 41) rfl
  obtain ⟨f22, F22⟩ := d.def_ 22 (d := dfn "instruction_of" 42) rfl
  obtain ⟨f23, F23⟩ := d.def_ 23 (d := dfn "parse_class" 44) rfl
  obtain ⟨f24, F24⟩ := d.def_ 24 (d := dfn "_law_source" 46) rfl
  obtain ⟨f25, F25⟩ := d.def_ 25 (d := dfn "_law_draw" 47) rfl
  obtain ⟨f26, F26⟩ := d.def_ 26 (d := dfn "_law_pick" 48) rfl
  obtain ⟨f27, F27⟩ := d.def_ 27 (d := dfn "_law_kind" 49) rfl
  obtain ⟨f28, F28⟩ := d.def_ 28 (d := dfn "_law_jump" 50) rfl
  obtain ⟨f29, F29⟩ := d.def_ 29 (d := dfn "_law_arrays" 51) rfl
  obtain ⟨f30, F30⟩ := d.def_ 30 (d := dfn "_law_calls" 52) rfl
  obtain ⟨f31, F31⟩ := d.def_ 31 (d := dfn "_law_steps" 53) rfl
  obtain ⟨f32, F32⟩ := d.def_ 32 (d := dfn "_law_code" 54) rfl
  obtain ⟨f33, F33⟩ := d.def_ 33 (d := dfn "_law_class" 55) rfl
  obtain ⟨f34, F34⟩ := d.def_ 34 (d := dfn "_law_item" 56) rfl
  obtain ⟨f35, F35⟩ := d.def_ 35 (d := dfn "_law_written" 57) rfl
  obtain ⟨f36, F36⟩ := d.def_ 36 (d := dfn "_law_known" 58) rfl
  obtain ⟨f37, F37⟩ := d.def_ 37 (d := dfn "law" 59) rfl
  obtain ⟨f38, F38⟩ := d.def_ 38 (d := mth "Method" "__init__" "Method.__init__" 25 0) rfl
  obtain ⟨f39, F39⟩ := d.def_ 39 (d := mth "Method" "parts" "Method.parts" 25 6) rfl
  obtain ⟨f40, F40⟩ := d.def_ 40 (d := mth "Method" "__eq__" "Method.__eq__" 25 7) rfl
  obtain ⟨f41, F41⟩ := d.def_ 41 (d := ⟨("ClassText", some "__init__"), "__init__", "ClassText.__init__", defArgs (inClass (top 33) 0), defBody (inClass (top 33) 0), defScope (inClass (top 33) 0), [], [("above", .str "top"), ("marks", .adr (kdAt "marks")), ("fields", .adr (kdAt "fields")), ("methods", .adr (kdAt "methods"))]⟩) rfl
  obtain ⟨f42, F42⟩ := d.def_ 42 (d := mth "ClassText" "parts" "ClassText.parts" 33 9) rfl
  obtain ⟨f43, F43⟩ := d.def_ 43 (d := mth "ClassText" "__eq__" "ClassText.__eq__" 33 10) rfl
  obtain ⟨f44, F44⟩ := d.def_ 44 (d := mth "ClassReader" "__init__" "ClassReader.__init__" 43 0) rfl
  obtain ⟨f45, F45⟩ := d.def_ 45 (d := mth "ClassReader" "refuse" "ClassReader.refuse" 43 1) rfl
  obtain ⟨f46, F46⟩ := d.def_ 46 (d := mth "ClassReader" "first_word" "ClassReader.first_word" 43 2) rfl
  obtain ⟨f47, F47⟩ := d.def_ 47 (d := mth "ClassReader" "take" "ClassReader.take" 43 3) rfl
  obtain ⟨f48, F48⟩ := d.def_ 48 (d := mth "ClassReader" "take_names" "ClassReader.take_names" 43 4) rfl
  obtain ⟨f49, F49⟩ := d.def_ 49 (d := mth "ClassReader" "read_field" "ClassReader.read_field" 43 5) rfl
  obtain ⟨f50, F50⟩ := d.def_ 50 (d := mth "ClassReader" "read_head" "ClassReader.read_head" 43 6) rfl
  obtain ⟨f51, F51⟩ := d.def_ 51 (d := mth "ClassReader" "read_code" "ClassReader.read_code" 43 7) rfl
  obtain ⟨f52, F52⟩ := d.def_ 52 (d := mth "ClassReader" "read_method" "ClassReader.read_method" 43 8) rfl
  obtain ⟨f53, F53⟩ := d.def_ 53 (d := mth "ClassReader" "read_all" "ClassReader.read_all" 43 9) rfl
  have e := hfa.symm.trans (He.glo_ok X G (d.fact 7 (f := .glo "law") rfl))
  cases e
  have clM : Cls K (He.ga K "Method") := He.cls_ok (d.fact 9 (f := .cls "Method") rfl)
  have clT : Cls K (He.ga K "ClassText") := He.cls_ok (d.fact 77 (f := .cls "ClassText") rfl)
  have clR : Cls K (He.ga K "ClassReader") := He.cls_ok (d.fact 87 (f := .cls "ClassReader") rfl)
  have gS := He.free_ok X G (d.fact 66 (f := .free "super") rfl)
  have T : Txt K mg := ⟨He.free_ok X G (d.fact 52 (f := .free "isinstance") rfl), He.free_ok X G (d.fact 53 (f := .free "len") rfl), He.free_ok X G (d.fact 54 (f := .free "all") rfl), He.free_ok X G (d.fact 58 (f := .free "str") rfl), He.free_ok X G (d.fact 63 (f := .free "max") rfl), He.free_ok X G (d.fact 64 (f := .free "min") rfl), He.free_ok X G (d.fact 56 (f := .free "int") rfl), He.free_ok X G (d.fact 62 (f := .free "range") rfl), He.free_ok X G (d.fact 60 (f := .free "tuple") rfl), He.free_ok X G (d.fact 55 (f := .free "any") rfl), He.free_ok X G (d.fact 57 (f := .free "bool") rfl), He.free_ok X G (d.fact 59 (f := .free "list") rfl), He.free_ok X G (d.fact 61 (f := .free "zip") rfl), He.free_ok X G (d.fact 67 (f := .free "set") rfl), He.free_ok X G (d.fact 68 (f := .free "sorted") rfl)⟩
  have D : Defs w K mg := ⟨T, He.str_ok X G (d.fact 0 (f := .str "LETTERS" "abcdefghijklmnopqrstuvwxyz") rfl), He.int_ok X G (d.fact 2 (f := .int "MOST_CODE" 40) rfl), He.int_ok X G (d.fact 3 (f := .int "MOST_SIZE" 10) rfl), He.int_ok X G (d.fact 4 (f := .int "MOST_PARAMS" 4) rfl),
    He.glo_ok X G (d.fact 5 (f := .glo "FORMS") rfl), c.t.tab 0, fun z => EX2.tab_look hTab z,
    ⟨_, f1, He.glo_ok X G (d.fact 16 (f := .glo "is_integer") rfl), F1⟩,
    ⟨_, f2, He.glo_ok X G (d.fact 17 (f := .glo "is_in_range") rfl), F2⟩,
    ⟨_, f3, He.glo_ok X G (d.fact 18 (f := .glo "is_name") rfl), F3⟩,
    ⟨_, f4, He.glo_ok X G (d.fact 19 (f := .glo "is_type") rfl), F4⟩,
    ⟨_, f5, He.glo_ok X G (d.fact 20 (f := .glo "is_sequence") rfl), F5⟩,
    ⟨_, f6, He.glo_ok X G (d.fact 21 (f := .glo "fits") rfl), F6⟩,
    ⟨_, f7, He.glo_ok X G (d.fact 22 (f := .glo "is_instruction") rfl), F7⟩,
    ⟨_, f8, He.glo_ok X G (d.fact 23 (f := .glo "drawers_in") rfl), F8⟩,
    ⟨_, f9, He.glo_ok X G (d.fact 24 (f := .glo "targets_in") rfl), F9⟩,
    ⟨_, f10, He.glo_ok X G (d.fact 25 (f := .glo "is_code") rfl), F10⟩,
    ⟨_, f11, He.glo_ok X G (d.fact 26 (f := .glo "is_size") rfl), F11⟩,
    ⟨_, f24, He.glo_ok X G (d.fact 39 (f := .glo "_law_source") rfl), F24⟩,
    ⟨_, f25, He.glo_ok X G (d.fact 40 (f := .glo "_law_draw") rfl), F25⟩,
    ⟨_, f26, He.glo_ok X G (d.fact 41 (f := .glo "_law_pick") rfl), F26⟩⟩
  have DDv : DD w K mg := ⟨D, ⟨_, f27, He.glo_ok X G (d.fact 42 (f := .glo "_law_kind") rfl), F27⟩, ⟨_, f28, He.glo_ok X G (d.fact 43 (f := .glo "_law_jump") rfl), F28⟩, ⟨_, f29, He.glo_ok X G (d.fact 44 (f := .glo "_law_arrays") rfl), F29⟩, ⟨_, f30, He.glo_ok X G (d.fact 45 (f := .glo "_law_calls") rfl), F30⟩, ⟨_, f31, He.glo_ok X G (d.fact 46 (f := .glo "_law_steps") rfl), F31⟩, ⟨_, f32, He.glo_ok X G (d.fact 47 (f := .glo "_law_code") rfl), F32⟩⟩
  have CDv : CD w K mg := ⟨DDv, ⟨_, f12, He.glo_ok X G (d.fact 27 (f := .glo "is_class_name") rfl), F12⟩, ⟨_, f13, He.glo_ok X G (d.fact 28 (f := .glo "are_marks") rfl), F13⟩, ⟨_, f14, He.glo_ok X G (d.fact 29 (f := .glo "is_field") rfl), F14⟩, ⟨_, f15, He.glo_ok X G (d.fact 30 (f := .glo "are_fields") rfl), F15⟩, ⟨_, f16, He.glo_ok X G (d.fact 31 (f := .glo "are_methods") rfl), F16⟩, He.int_ok X G (d.fact 101 (f := .int "MOST_PARTS" 8) rfl), He.str_ok X G (d.fact 1 (f := .str "TOP_NAME" "top") rfl)⟩
  have FDv : FD w K mg := ⟨CDv, ⟨_, f17, He.glo_ok X G (d.fact 32 (f := .glo "number_of") rfl), F17⟩, ⟨_, f18, He.glo_ok X G (d.fact 33 (f := .glo "item_text") rfl), F18⟩, ⟨_, f19, He.glo_ok X G (d.fact 34 (f := .glo "method_lines") rfl), F19⟩, ⟨_, f20, He.glo_ok X G (d.fact 35 (f := .glo "format_class") rfl), F20⟩, ⟨_, f21, He.glo_ok X G (d.fact 36 (f := .glo "item_of") rfl), F21⟩, ⟨_, f22, He.glo_ok X G (d.fact 37 (f := .glo "instruction_of") rfl), F22⟩, ⟨_, f34, He.glo_ok X G (d.fact 49 (f := .glo "_law_item") rfl), F34⟩, ⟨_, f35, He.glo_ok X G (d.fact 50 (f := .glo "_law_written") rfl), F35⟩, He.str_ok X G (d.fact 99 (f := .str "DIGITS" "0123456789") rfl), He.int_ok X G (d.fact 100 (f := .int "MOST_DIGITS" 30) rfl)⟩
  have LWv : LW w K mg := ⟨FDv, ⟨_, f23, He.glo_ok X G (d.fact 38 (f := .glo "parse_class") rfl), F23⟩, ⟨_, f33, He.glo_ok X G (d.fact 48 (f := .glo "_law_class") rfl), F33⟩, ⟨_, f36, He.glo_ok X G (d.fact 51 (f := .glo "_law_known") rfl), F36⟩, ⟨_, f24, He.glo_ok X G (d.fact 39 (f := .glo "_law_source") rfl), F24⟩⟩
  have M : MethF K mg := ⟨He.glo_ok X G (d.fact 6 (f := .glo "Method") rfl), He.mkr_ok (d.fact 8 (f := .mkr "Method") rfl), clM, He.noat_ok (d.fact 10 (f := .noat "Method" "own_name") rfl), He.noat_ok (d.fact 11 (f := .noat "Method" "own_params") rfl), He.noat_ok (d.fact 12 (f := .noat "Method" "own_result") rfl), He.noat_ok (d.fact 13 (f := .noat "Method" "own_size") rfl), He.noat_ok (d.fact 14 (f := .noat "Method" "own_code") rfl), He.meth_ok (d.fact 73 (f := .meth "Method" "parts") rfl), He.meth_ok (d.fact 74 (f := .meth "Method" "__eq__") rfl), ⟨f39, F39⟩, ⟨f40, F40⟩, ⟨f38, F38⟩⟩
  have hi2 := hI2
  unfold insC at hi2
  simp only [Bool.and_eq_true] at hi2
  have C : CtF K mg := ⟨He.glo_ok X G (d.fact 75 (f := .glo "ClassText") rfl), He.mkr_ok (d.fact 76 (f := .mkr "ClassText") rfl), clT, He.noat_ok (d.fact 78 (f := .noat "ClassText" "own_name") rfl), He.noat_ok (d.fact 79 (f := .noat "ClassText" "own_above") rfl), He.noat_ok (d.fact 80 (f := .noat "ClassText" "own_marks") rfl), He.noat_ok (d.fact 81 (f := .noat "ClassText" "own_fields") rfl), He.noat_ok (d.fact 82 (f := .noat "ClassText" "own_methods") rfl), He.meth_ok (d.fact 83 (f := .meth "ClassText" "parts") rfl), He.meth_ok (d.fact 84 (f := .meth "ClassText" "__eq__") rfl), He.eqO_ok hi2.2.2.2, ⟨f42, F42⟩, ⟨f43, F43⟩, ⟨f41, F41⟩, empB_ok (List.all_eq_true.mp hEm "marks" (by simp)), empB_ok (List.all_eq_true.mp hEm "fields" (by simp)), empB_ok (List.all_eq_true.mp hEm "methods" (by simp))⟩
  have RF : RdF K mg := ⟨He.glo_ok X G (d.fact 85 (f := .glo "ClassReader") rfl), He.mkr_ok (d.fact 86 (f := .mkr "ClassReader") rfl), clR, He.noat_ok (d.fact 88 (f := .noat "ClassReader" "lines") rfl), He.noat_ok (d.fact 89 (f := .noat "ClassReader" "at") rfl), He.meth_ok (d.fact 91 (f := .meth "ClassReader" "first_word") rfl), He.meth_ok (d.fact 92 (f := .meth "ClassReader" "take") rfl), He.meth_ok (d.fact 93 (f := .meth "ClassReader" "take_names") rfl), He.meth_ok (d.fact 94 (f := .meth "ClassReader" "read_field") rfl), He.meth_ok (d.fact 95 (f := .meth "ClassReader" "read_head") rfl), He.meth_ok (d.fact 96 (f := .meth "ClassReader" "read_code") rfl), He.meth_ok (d.fact 97 (f := .meth "ClassReader" "read_method") rfl), He.meth_ok (d.fact 98 (f := .meth "ClassReader" "read_all") rfl), ⟨f44, F44⟩, ⟨f46, F46⟩, ⟨f47, F47⟩, ⟨f48, F48⟩, ⟨f49, F49⟩, ⟨f50, F50⟩, ⟨f51, F51⟩, ⟨f52, F52⟩, ⟨f53, F53⟩⟩
  have hbl := hB
  unfold EX2.bltB at hbl
  rw [Bool.and_eq_true, Bool.and_eq_true] at hbl
  have IFm : ∀ C : Str, insC K C = true → EX2.InsF K (He.ga K C) := fun C hc => by
    unfold insC at hc
    simp only [Bool.and_eq_true] at hc
    exact ⟨He.eqO_ok hc.1, He.eqO_ok hbl.1, of_decide_eq_true hbl.2.1, of_decide_eq_true hc.2.1, of_decide_eq_true hc.2.2.1⟩
  obtain ⟨g, fdX, FX⟩ := EX2.sud_at (P := PP) hb c.sup 0 (d := sd "InvalidMethod" "InvalidMethod.__init__" 3 ["given"]) rfl
  have b := FunD.bindsA (ps := ["_law_script"]) F37 fun _ _ _ _ _ _ us hl => match us, hl with | [_], _ => rfl
  refine ⟨f37, fun s v => b s [v] rfl, fun base KB _ => ?_⟩
  have XF : ExcF PP w K mg base := ⟨He.glo_ok X G (d.fact 69 (f := .glo "InvalidMethod") rfl), He.glo_ok X G (d.fact 72 (f := .glo "ClassError") rfl), g, ⟨fdX, EX2.ok_x1 FX g.t (g.no _ (List.mem_singleton.mpr rfl)) rfl (NdefX.nscope_by (by decide +kernel)) rfl rfl g.su g.self (EX2.any_free hB) rfl gS htop (by decide) (by decide),
    FX.binds fun _ _ _ _ _ us hl => match us, hl with | [_, _], _ => rfl⟩, hC⟩
  obtain ⟨fG0, FG0⟩ := c.path 0 (d := pd "name" "Method.name" 1) rfl
  have g0 : GetM PP w K mg base "Method" "name" "own_name" := ⟨EX2.propB_ok (List.all_eq_true.mp hProp "name" (by simp)), fG0, EX2.ok_get (N := ["self"]) FG0 ⟨rfl, rfl, rfl, by decide +kernel, rfl, by decide +kernel, by decide +kernel⟩ rfl (by rfl) clM (He.noat_ok (d.fact 10 (f := .noat "Method" "own_name") rfl)), FunD.bindsN FG0 fun _ _ _ _ _ _ us hl => match us, hl with | [_], _ => rfl⟩
  obtain ⟨fG1, FG1⟩ := c.path 1 (d := pd "params" "Method.params" 2) rfl
  have g1 : GetM PP w K mg base "Method" "params" "own_params" := ⟨EX2.propB_ok (List.all_eq_true.mp hProp "params" (by simp)), fG1, EX2.ok_get (N := ["self"]) FG1 ⟨rfl, rfl, rfl, by decide +kernel, rfl, by decide +kernel, by decide +kernel⟩ rfl (by rfl) clM (He.noat_ok (d.fact 11 (f := .noat "Method" "own_params") rfl)), FunD.bindsN FG1 fun _ _ _ _ _ _ us hl => match us, hl with | [_], _ => rfl⟩
  obtain ⟨fG2, FG2⟩ := c.path 2 (d := pd "result" "Method.result" 3) rfl
  have g2 : GetM PP w K mg base "Method" "result" "own_result" := ⟨EX2.propB_ok (List.all_eq_true.mp hProp "result" (by simp)), fG2, EX2.ok_get (N := ["self"]) FG2 ⟨rfl, rfl, rfl, by decide +kernel, rfl, by decide +kernel, by decide +kernel⟩ rfl (by rfl) clM (He.noat_ok (d.fact 12 (f := .noat "Method" "own_result") rfl)), FunD.bindsN FG2 fun _ _ _ _ _ _ us hl => match us, hl with | [_], _ => rfl⟩
  obtain ⟨fG3, FG3⟩ := c.path 3 (d := pd "size" "Method.size" 4) rfl
  have g3 : GetM PP w K mg base "Method" "size" "own_size" := ⟨EX2.propB_ok (List.all_eq_true.mp hProp "size" (by simp)), fG3, EX2.ok_get (N := ["self"]) FG3 ⟨rfl, rfl, rfl, by decide +kernel, rfl, by decide +kernel, by decide +kernel⟩ rfl (by rfl) clM (He.noat_ok (d.fact 13 (f := .noat "Method" "own_size") rfl)), FunD.bindsN FG3 fun _ _ _ _ _ _ us hl => match us, hl with | [_], _ => rfl⟩
  obtain ⟨fG4, FG4⟩ := c.path 4 (d := pd "code" "Method.code" 5) rfl
  have g4 : GetM PP w K mg base "Method" "code" "own_code" := ⟨EX2.propB_ok (List.all_eq_true.mp hProp "code" (by simp)), fG4, EX2.ok_get (N := ["self"]) FG4 ⟨rfl, rfl, rfl, by decide +kernel, rfl, by decide +kernel, by decide +kernel⟩ rfl (by rfl) clM (He.noat_ok (d.fact 14 (f := .noat "Method" "own_code") rfl)), FunD.bindsN FG4 fun _ _ _ _ _ _ us hl => match us, hl with | [_], _ => rfl⟩
  obtain ⟨fG5, FG5⟩ := c.path 5 (d := pdC "name" "ClassText.name" 1) rfl
  have g5 : GetM PP w K mg base "ClassText" "name" "own_name" := ⟨EX2.propB_ok (List.all_eq_true.mp hPC "name" (by simp)), fG5, EX2.ok_get (N := ["self"]) FG5 ⟨rfl, rfl, rfl, by decide +kernel, rfl, by decide +kernel, by decide +kernel⟩ rfl (by rfl) clT (He.noat_ok (d.fact 78 (f := .noat "ClassText" "own_name") rfl)), FunD.bindsN FG5 fun _ _ _ _ _ _ us hl => match us, hl with | [_], _ => rfl⟩
  obtain ⟨fG6, FG6⟩ := c.path 6 (d := pdC "above" "ClassText.above" 2) rfl
  have g6 : GetM PP w K mg base "ClassText" "above" "own_above" := ⟨EX2.propB_ok (List.all_eq_true.mp hPC "above" (by simp)), fG6, EX2.ok_get (N := ["self"]) FG6 ⟨rfl, rfl, rfl, by decide +kernel, rfl, by decide +kernel, by decide +kernel⟩ rfl (by rfl) clT (He.noat_ok (d.fact 79 (f := .noat "ClassText" "own_above") rfl)), FunD.bindsN FG6 fun _ _ _ _ _ _ us hl => match us, hl with | [_], _ => rfl⟩
  obtain ⟨fG7, FG7⟩ := c.path 7 (d := pdC "marks" "ClassText.marks" 3) rfl
  have g7 : GetM PP w K mg base "ClassText" "marks" "own_marks" := ⟨EX2.propB_ok (List.all_eq_true.mp hPC "marks" (by simp)), fG7, EX2.ok_get (N := ["self"]) FG7 ⟨rfl, rfl, rfl, by decide +kernel, rfl, by decide +kernel, by decide +kernel⟩ rfl (by rfl) clT (He.noat_ok (d.fact 80 (f := .noat "ClassText" "own_marks") rfl)), FunD.bindsN FG7 fun _ _ _ _ _ _ us hl => match us, hl with | [_], _ => rfl⟩
  obtain ⟨fG8, FG8⟩ := c.path 8 (d := pdC "fields" "ClassText.fields" 4) rfl
  have g8 : GetM PP w K mg base "ClassText" "fields" "own_fields" := ⟨EX2.propB_ok (List.all_eq_true.mp hPC "fields" (by simp)), fG8, EX2.ok_get (N := ["self"]) FG8 ⟨rfl, rfl, rfl, by decide +kernel, rfl, by decide +kernel, by decide +kernel⟩ rfl (by rfl) clT (He.noat_ok (d.fact 81 (f := .noat "ClassText" "own_fields") rfl)), FunD.bindsN FG8 fun _ _ _ _ _ _ us hl => match us, hl with | [_], _ => rfl⟩
  obtain ⟨fG9, FG9⟩ := c.path 9 (d := pdC "methods" "ClassText.methods" 5) rfl
  have g9 : GetM PP w K mg base "ClassText" "methods" "own_methods" := ⟨EX2.propB_ok (List.all_eq_true.mp hPC "methods" (by simp)), fG9, EX2.ok_get (N := ["self"]) FG9 ⟨rfl, rfl, rfl, by decide +kernel, rfl, by decide +kernel, by decide +kernel⟩ rfl (by rfl) clT (He.noat_ok (d.fact 82 (f := .noat "ClassText" "own_methods") rfl)), FunD.bindsN FG9 fun _ _ _ _ _ _ us hl => match us, hl with | [_], _ => rfl⟩
  exact oklaw F37 LWv RF M XF (IFm _ hI1) ⟨g0, g1, g2, g3, g4, g5, g6, g7, g8, g9⟩ C (IFm _ hI2)
end K50
open PySem PySem.W PySem.Calls PyProof.Rows
theorem PySem.Challenge.cw_lateclasses_k50_class_texts_written_holds : PySem.Challenge.rw_lateclasses_k50_class_texts_written.Holds := by
  w_on; o_law
  refine HandSHeadRun.head_any (r := OpenLaw.row K50.RW) (q := view (OpenLaw.row K50.RW).prog [59]) (H := K50.hk) (ob := K50.ob) (M := 14000) (loose := K50.loose) (d := HandSHeadRun.topDef (OpenLaw.row K50.RW).prog 59) (kwd := []) K50.ob_eq
    (by kernel_rfl) (fun s => by kernel_rfl) K50.run (by kernel_rfl) (by kernel_rfl) (by kernel_rfl) (by rfl) (by first | assumption | decide +kernel) (by decide +kernel) ⟨rfl, rfl, rfl, rfl, rfl, by decide +kernel⟩ ?hw ?hc
  case hw => w_witness2
  case hc =>
    refine L2.walk_ofE (l := K50.RW) (n := 63) (k := 11) (x := "_law_script") (CX := L2.CX0) rfl (by decide) (by kernel_rfl) ⟨rfl, by decide, by decide⟩ ?F (fun _ _ _ _ z => z)
    intro w mg fa h Y G hmg0
    obtain ⟨K, KX, c⟩ := Y
    have hmg : mg ("law" : PySem.Str) = some (.ref fa) := by
      have e : (HandSHeadRun.topDef (OpenLaw.row K50.RW).prog 59).name = ("law" : PySem.Str) := by kernel_rfl
      rw [← e]
      exact hmg0
    obtain ⟨fd, hb, hF⟩ := K50.facts (w := w) KX G hmg c
    exact ⟨K, fd, K50.spLaw K, KX, hb, fun H a ns hl _ hS => ⟨a, ns, rfl, hS, Nat.le_trans hl (by decide), fun _ => rfl⟩, hF⟩
