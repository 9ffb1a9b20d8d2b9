import PyProof.Rows.All
import HandS.Defaults
import HandS.Evl
import HandS.Exc
import HandS.ExcField
import HandS.ExcInit
import HandS.ExcIs
import HandS.ExcOwn
import HandS.ExcSuper
import HandS.Finally
import HandS.ForMost
import HandS.Head0
import HandS.Head1
import HandS.Head2
import HandS.Head3
import HandS.HeadEnd
import HandS.HeadHook1
import HandS.HeadHook2
import HandS.HeadHook3
import HandS.HeadHook4
import HandS.IsInst
import HandS.Iter
import HandS.Nested
import HandS.NoneIn
import HandS.OwnEq
import HandS.Property
import HandS.Text
import HandS.TupAny
import HandS.Walk
import HandS.Words
import HandS.WordsExc
import HandS.Zip
import HandS.Zip0
import KE.KDictDisplayH
import KE.KExcInit
import KE.KExcLine
import KE.KFromBytes
import KE.KStateDown
import KE.KSuper
import OpenK.AllK
import PyProof.AutoSeq1
import PyProof.CallFns
import PyProof.Draws
import PyProof.EqAt
import PyProof.NeKinds
import PyProof.ReprRoads
import PyProof.ZipIter
import Wide.All
import Wide.FinOn
import PySem.Challenge.RW_lateclasses_k03_methods_made
set_option Elab.async false
set_option linter.all false
set_option maxRecDepth 100000
set_option maxHeartbeats 2000000
/-! own exceptions over an own class over Exception, whose __init__ says super().__init__(text) and stores its arguments -/
namespace EX2
open PySem PySem.Spec PyProof.Rows L2
abbrev bmE : List Value := [.type "Exception", .type "BaseException", .type "object"]
/-- what the written part says of such a class -/
structure ExK (K : PySem.W.Frag) (C : Addr) : Prop where
  init : PySem.W.excInitIn K C bmE "Exception.__new__" = true
  over : PySem.W.excOver K C bmE = true
  hdC : PySem.W.hasDictIn K C = true
  sa : PySem.W.findIn K (.ref C) "__setattr__" = some (some (.builtin "object.__setattr__"))
  exC : PySem.W.subIn K (.ref C) (.type "BaseException") = some true
  exE : PySem.W.subIn K (.ref C) (.type "Exception") = some true
  tyC : PySem.W.typeIn K (.ref C) = some (.type "type")
  kC : PySem.W.keepIn K (.ref C) = true
section
open PySem.W PySem.Calls
open Builtin Builtin.ObjectAttr
variable {prog : Program} {w : World} {A : Around} {E : Value → Shared → Prop} {R : Result → Shared → Prop} {hp : Heap} {g : Array GenState} {d : Drawn} {t : Nat} {os : OsState}
theorem taker_none {K : PySem.W.Frag} {C : Addr} {name : Str} (ha : PySem.W.findIn K (.ref C) name = some none) : PySem.W.takerIn K C name = some none := by
  unfold PySem.W.takerIn
  rw [ha]
  rfl
theorem osa_new {K : PySem.W.Frag} {name : Str} {tk : Tok} {v : Value} {x C : Addr} {fv : Array Value} (T : ExK K C)
    (X : K.In hp) (hx : hp.get? x = some { cls := .ref C, data := .fields fv }) (ha : PySem.W.findIn K (.ref C) name = some none)
    (hq : ∀ h' tk' dx, (∀ b o, b ≠ x → hp.get? b = some o → h'.get? b = some o) → hp.objs.size ≤ dx → dx ≠ x → h'.get? x = some { cls := .ref C, dict := some dx, data := .fields fv } →
      h'.Ns1 dx (fun y => if y = name then some v else none) → R (.ok (.ret .none)) ⟨h', g, d, tk', os⟩) :
    codeAny (model prog w) A (.call (.builtin "object.__setattr__") ⟨[.ref x, .str name tk, v], []⟩) R ⟨hp, g, d, t, os⟩ := by
  have I : PySem.W.InstAt hp x { cls := .ref C, data := .fields fv } C none := ⟨hx, rfl, rfl, trivial⟩
  have hxs : x ≠ hp.objs.size := Nat.ne_of_lt (Heap.lt_size hx)
  refine PySem.W.osa_openX F.store_Exception (s := ⟨hp, g, d, t, os⟩) X I T.over (taker_none ha) fun b => ?_
  obtain ⟨cd, hcd, hh⟩ := PySem.W.any_some T.hdC
  have hcls : PySem.W.Looks (model prog w) hp (classData C) cd := PySem.W.looks_clsIn X hcd
  obtain ⟨nm, bs, mro, ns, qn, hd, sn, sb, ab, col, del⟩ := cd
  dsimp only at hh
  subst hh
  show wpAny _ _ (storeInOwnDict (.ref x) (.ref C) (.str name tk) name v b) _ _ _
  unfold storeInOwnDict ownDictForStores
  repeat (first | with_reducible refine HandSPX.store_in_new ?_ ?_ | with_reducible refine wpAny_loadPart_at hx ?_ | with_reducible refine hcls.at ?_ | wp_step)
  · exact ⟨_, #[], _, (Heap.get?_update_ne _ _ _ _ hxs.symm).trans (Heap.get?_push_at rfl rfl), rfl, fun e he => absurd he (by simp), fun _ => rfl⟩
  · intro h' tk' hn' hs
    have hx₁ : (hp.push { cls := .type "dict", data := .dict #[] }).get? x = some { cls := .ref C, data := .fields fv } := Heap.get?_push_of_some _ hx
    refine hq h' tk' hp.objs.size (fun b o hb ho => ?_) (Nat.le_refl _) hxs.symm ?_ hn'
    · exact (hs.2 b (Nat.ne_of_lt (Heap.lt_size ho))).trans ((Heap.get?_update_ne _ _ _ _ hb).trans (Heap.get?_push_of_some _ ho))
    · exact (hs.2 x hxs).trans (Heap.get?_update_self _ hx₁ rfl)
theorem osa_old {K : PySem.W.Frag} {name : Str} {tk : Tok} {v : Value} {x C dx : Addr} {fv : Array Value} {m0 : Str → Option Value} {nl : List Str} (T : ExK K C)
    (X : K.In hp) (hx : hp.get? x = some { cls := .ref C, dict := some dx, data := .fields fv }) (hns : hp.Ns1 dx m0) (hw : Within m0 nl) (hz : nl.length ≤ 1000)
    (ha : PySem.W.findIn K (.ref C) name = some none)
    (hq : ∀ h' tk', (∀ b o, b ≠ dx → hp.get? b = some o → h'.get? b = some o) → h'.Ns1 dx (fun y => if y = name then some v else m0 y) → R (.ok (.ret .none)) ⟨h', g, d, tk', os⟩) :
    codeAny (model prog w) A (.call (.builtin "object.__setattr__") ⟨[.ref x, .str name tk, v], []⟩) R ⟨hp, g, d, t, os⟩ := by
  obtain ⟨oD, esD, epD, hoD, hdD, _⟩ := hns.count hw
  have I : PySem.W.InstAt hp x { cls := .ref C, dict := some dx, data := .fields fv } C (some oD) := ⟨hx, rfl, rfl, hoD⟩
  refine PySem.W.osa_openX F.store_Exception (s := ⟨hp, g, d, t, os⟩) X I T.over (taker_none ha) fun b => ?_
  obtain ⟨cd, hcd, hh⟩ := PySem.W.any_some T.hdC
  have hcls : PySem.W.Looks (model prog w) hp (classData C) cd := PySem.W.looks_clsIn X hcd
  obtain ⟨nm, bs, mro, ns, qn, hd, sn, sb, ab, col, del⟩ := cd
  dsimp only at hh
  subst hh
  show wpAny _ _ (storeInOwnDict (.ref x) (.ref C) (.str name tk) name v b) _ _ _
  unfold storeInOwnDict ownDictForStores
  repeat (first | with_reducible refine ESX.store_in_old hns hw hz ?_ | with_reducible refine wpAny_loadPart_at hx ?_ | with_reducible refine hcls.at ?_ | wp_step)
  intro h' tk' hn' hs
  exact hq h' tk' (fun b o hb ho => (hs.2 b hb).trans ho) hn'
end
end EX2
set_option Elab.async false
set_option linter.all false
set_option maxRecDepth 100000
set_option maxHeartbeats 2000000
namespace EX2
open PySem PySem.Spec PyProof.Rows L2
section
variable {X : Cx} {pins : List (Addr × Obj)} {σ : L2.St} {H : Hp} {s : Shared} {a C dx : Addr} {f : Str} {y : V} {u : Value} {fs : List (Str × V)} {Q : Unit → Shared → Prop} {E : Value → Shared → Prop} {A : Around}
/-- self.f = y, the first one -/
theorem ost_new (T : ExK X.K C) (I : Inv X pins σ H s) (e : H a = some (exo a C none)) (hno : PySem.W.findIn X.K (.ref C) f = some none) (ry : RelV y u)
    (h : ∀ dx s', H dx = none → dx ≠ a → Inv X pins σ (upd (upd H dx (exd dx [(f, y)])) a (exo a C (some dx))) s' → Q () s') : wpAny (model X.prog X.w) A (setAttr (.ref a) f u) Q E s := by
  obtain ⟨t1, ho⟩ := exo_at I.hok e
  obtain ⟨hp, g, d, t, os⟩ := s
  refine PySem.W.set_plain I.kIn (ox := { cls := .ref C, dict := none, data := .fields #[.ref t1, .none, .none, .none, .bool false, .none] }) (od := none) ⟨ho, rfl, rfl, trivial⟩ T.sa ?_
  refine EX2.osa_new T I.kIn ho hno (fun h' tk' dx k dn dne hx hn => ?_)
  have hnd : H dx = none := I.hok.fresh dn
  have nd : ∀ {b : Addr} {o : Obj}, hp.get? b = some o → b ≠ dx := fun {b o} q => Nat.ne_of_lt (Nat.lt_of_lt_of_le (Heap.lt_size q) dn)
  have na : ∀ {b : Addr}, H b = none → b ≠ a := fun {b} n z => by
    rw [z, e] at n
    cases n
  have Un1 : Un X.fs [] H (upd (upd H dx (exd dx [(f, y)])) a (exo a C (some dx))) hp h' := {
    keep := fun b o q n _ _ => k b o (na n) q
    slot := fun b o q n _ _ => ⟨o.slots, k b o (na n) q⟩
    free := fun b o q n _ => by rw [upd_ne (na n), upd_ne (nd q)]; exact n
    there := fun b o q _ => by
      by_cases hb : b = a
      · exact ⟨_, by rw [hb]; exact hx⟩
      · exact ⟨o, k b o hb q⟩
    tups := fun b xs q => by rw [upd_ne (at_ne e q exo_tup), upd_ne (ne_of_none q hnd)]; exact q
    frzs := fun b o v q => by rw [upd_ne (at_ne e q exo_frz), upd_ne (ne_of_none q hnd)]; exact q
    tbls := fun b ps q => ⟨#[], by rw [upd_ne (at_ne e q exo_tbl), upd_ne (ne_of_none q hnd), q]; simp⟩ }
  refine h dx _ hnd dne (I.un (t' := tk') Un1 fun b o q => ?_)
  by_cases hb : b = a
  · subst hb
    rw [upd_same] at q
    cases q
    exact exo_ok hx
  · rw [upd_ne hb] at q
    by_cases hd : b = dx
    · subst hd
      rw [upd_same] at q
      cases q
      exact exd_ok hn (relO_put (fs := []) ry fun g => True.intro)
    · rw [upd_ne hd] at q
      exact (I.hok b o q).stay (fun c v hc z => k c v (by
          rcases hc with hc | hc
          · rw [hc]
            exact hb
          · exact at_ne e hc exo_own) z)
        (fun c hc => by rw [upd_ne (at_ne e hc exo_own), upd_ne (ne_of_none hc hnd)]; exact hc) (fun c xs hc => by rw [upd_ne (at_ne e hc exo_tup), upd_ne (ne_of_none hc hnd)]; exact hc)
/-- self.f = y, a further one -/
theorem ost_old (T : ExK X.K C) (I : Inv X pins σ H s) (e : H a = some (exo a C (some dx))) (ed : H dx = some (exd dx fs)) (hl : fs.length ≤ 900) (hno : PySem.W.findIn X.K (.ref C) f = some none) (ry : RelV y u)
    (h : ∀ s', Inv X pins σ (upd H dx (exd dx ((f, y) :: fs))) s' → Q () s') : wpAny (model X.prog X.w) A (setAttr (.ref a) f u) Q E s := by
  obtain ⟨t1, ho⟩ := exo_at I.hok e
  obtain ⟨mA, hns, rel⟩ := exd_at I.hok ed
  have hw := within_of rel
  obtain ⟨hp, g, d, t, os⟩ := s
  obtain ⟨oD, _, _, hoD, _, _⟩ := hns.count hw
  refine PySem.W.set_plain I.kIn (ox := { cls := .ref C, dict := some dx, data := .fields #[.ref t1, .none, .none, .none, .bool false, .none] }) (od := some oD) ⟨ho, rfl, rfl, hoD⟩ T.sa ?_
  refine EX2.osa_old T I.kIn ho hns hw (by rw [List.length_map]; omega) hno (fun h' tk' k hn => ?_)
  have hd : ∃ o, h'.get? dx = some o := by
    obtain ⟨o, _, _, e', _⟩ := hn
    exact ⟨o, e'⟩
  exact h _ (I.write (t' := tk') (x := dx) (e := dx) (o := exd dx ((f, y) :: fs)) (by rw [ed]; exact True.intro) (.inl rfl) k hd (exd_ok hn (relO_put ry rel)))
end
/-- o.f = v, o an exception that is being made -/
def gOst (K : PySem.W.Frag) (f : Str) (to : TE) : TG := fun y σ H Q => to σ H fun x H2 => ∃ a C : Addr, x = .ref a ∧ ExK K C ∧ PySem.W.findIn K (.ref C) f = some none ∧
  ((H2 a = some (exo a C none) ∧ ∀ dx, H2 dx = none → dx ≠ a → Q σ (upd (upd H2 dx (exd dx [(f, y)])) a (exo a C (some dx)))) ∨
    ∃ (dx : Addr) (fs : List (Str × V)), H2 a = some (exo a C (some dx)) ∧ H2 dx = some (exd dx fs) ∧ fs.length ≤ 900 ∧ Q σ (upd H2 dx (exd dx ((f, y) :: fs))))
theorem pg_ost {X : Cx} {o : Expr} {to : TE} {f : Str} {p : Pos} (ho : PE X o to) : PG X (.Attribute o f p) (gOst X.K f to) := by
  refine ⟨fun pins s σ H v u Q I r h => ?_⟩
  refine PySem.W.kas_attr (thn (ho.run pins s σ H _ I h) fun ov s2 ⟨x, H2, I2, r2, a, C, ex, T, hno, q⟩ => ?_)
  subst ex
  obtain rfl : ov = Value.ref a := r2
  rcases q with ⟨ea, q⟩ | ⟨dx, fs, ea, ed, hl, q⟩
  · exact ost_new T I2 ea hno r fun dx s' n ne J => ⟨σ, _, J, q dx n ne⟩
  · exact ost_old T I2 ea ed hl hno r fun s' J => ⟨σ, _, J, q⟩
/-! ### the def with its cell -/
/-- such an __init__ as it stands behind the top -/
structure SuF (P : Program) (K : PySem.W.Frag) (qual : Str) (st : Stmt) (C f : Addr) (fd : FuncData) : Prop where
  ex : ∃ (oc : Value) (od : Option Addr) (osl : Array (Option Value)) (doc pm ctv : Value) (cc c : Addr) (ocl : Obj) (occ : Obj) (vs : Array Value) (file : Str) (tf : Tok),
    fd = (NdefX.NF.mk "__init__" qual (defArgs st) (defBody st) (defScope st) [("__class__", cc)] c).fd doc pm ctv ∧ K.lookup f = some ⟨oc, od, .func fd, osl⟩ ∧ PySem.W.codeIn K (.ref c) qual = true ∧
      K.lookup cc = some ocl ∧ ocl.data = .cell (some (.ref C)) ∧ K.lookup c = some occ ∧ occ.data = .fields vs ∧ vs[2]? = some (.str file tf) ∧ ((P.main.file : Str) == file) = true
  at_ : PySem.W.findIn K (.ref C) "__init__" = some (some (.ref f))
  ty : PySem.W.typeIn K (.ref f) = some (.type "function")
/-- what a made exception holds: fs its fields -/
def spX (C : Addr) (n : Nat) (fs : List V → List (Str × V)) : Sp := fun vs H Q _ => ∃ a xs, vs = .ref a :: xs ∧ xs.length = n ∧ H a = some (exo a C none) ∧
  ∀ (H' : Hp) (dx : Addr), (∀ b o, b ≠ a → H b = some o → H' b = some o) → H dx = none → dx ≠ a → H' a = some (exo a C (some dx)) → H' dx = some (exd dx (fs xs)) → Q .non H'
theorem two_ok : 2 ≤ sizeLine := by rw [sizeLine_eq]; decide
theorem type_super : bootBuiltins "super" = some (.type "super") := by kernel_rfl
section
variable {P : Program} {w : World} {K : PySem.W.Frag} {mg : Str → Option Value} {base : Heap} {f C : Addr} {fd : FuncData} {k : Nat}
theorem call_form {o : Expr} {name : Str} {apos pos : Pos} {e : Const} {j : Nat} {p3 : Pos} {env : Env} (hln : (apos.endLine == pos.line) = true) : eval (.Call (.Attribute o name apos) [.Constant e j p3] [] pos) env = (do
      let ov ← attributeBase o name env (eval o env)
      standAt apos.atName
      let (f, first) ← holding [ov] (getMethod ov name (do return (← importBound o env).getD true))
      callWith pos f first (backTo pos (starEach [.Constant e j p3] env)) []) := by
  have e1 : methodCallPos true o env apos pos = pure pos := by
    unfold methodCallPos
    rw [hln]
    rfl
  show (do
    let ov ← attributeBase o name env (eval o env)
    standAt apos.atName
    let (f, first) ← holding [ov] (getMethod ov name (do return (← importBound o env).getD true))
    let callPos ← methodCallPos true o env apos pos
    callWith callPos f first (backTo pos (starEach [.Constant e j p3] env)) []) = _
  rw [e1]
  rfl
theorem ok_xinit {qual : Str} {st : Stmt} {ps : List Str} {N : List Str} {msg : Str} {j : Nat} {p0 p1 p2 p3 p4 p5 : Pos} {rest : List Stmt} {n : Nat} {fs : List V → List (Str × V)} (F : SuF P K qual st C f fd) (T : ExK K C)
    (hb : defBody st = .Expr (.Call (.Attribute (.Call (.Name "super" p0) [] [] p1) "__init__" p2) [.Constant (.str msg) j p3] [] p4) p5 :: rest)
    (S : NdefX.NScope N (("self" : Str) :: ps) ["__class__"] (defScope st)) (hps : ps.length = n) (hks : (defScope st).names.lookup ("super" : Str) = some .globalImplicit)
    (har : ((defArgs st).posonlyargs ++ (defArgs st).args).head?.map (·.arg) = some (("self" : Str)))
    (hsu : PySem.W.ks_superIn K C C "__init__" = some (some (.builtin "Exception.__init__"))) (hmC : PySem.W.mroIn K C (.ref C) = some true) (hop : PySem.W.nsIn K cStatics "thirdparty.any" = some none)
    (hln : (p2.endLine == p4.line) = true) (gS : mg "super" = none) (htop : (P.main.scope.names.lookup ("super" : Str)).isSome = false)
    (hrest : ∀ (A : Around) (outer : List Env) (s : Shared) (H : Hp) (cc c : Addr) (a : Addr) (xs : List V) (Q : VK) (E : XK), xs.length = n → H a = some (exo a C none) →
      (∀ (H' : Hp) (dx : Addr), (∀ b o, b ≠ a → H b = some o → H' b = some o) → H dx = none → dx ≠ a → H' a = some (exo a C (some dx)) → H' dx = some (exd dx (fs xs)) → Q .non H') →
      ∃ t, PSs (NdefX.ncx CX0 P w K mg base N (NdefX.NF.mk "__init__" qual (defArgs st) (defBody st) (defScope st) [("__class__", cc)] c) f A outer s H E).nox rest t ∧ t { nx := fun _ H' => Q .non H', rt := Q } (NdefX.startF N (.ref a :: xs) [some (.ref C)]) H) :
    FnOk P w K mg base CX0 (k + 1) f fd (("self" : Str) :: ps) (spX C n fs) := by
  refine ⟨fun vs H Q E h => ?_, fun A outer s H args us vs Q E hr e0 hbi r hsp => ?_⟩
  · obtain ⟨a, xs, rfl, hl, _⟩ := h
    simp [hl, hps]
  · obtain ⟨oc, od, osl, doc, pm, ctv, cc, c, ocl, occ, fvs, file, tf, rfl, lk, hcd, lcc, dcc, lc, dc, hvs, hfile⟩ := F.ex
    have KX : K.In s.heap := e0.mod.kin.keeps fun b o e => (e0.bs b o e).1
    have lim : s.heap.NoLimit := e0.mod.nolimit.keeps fun b o e => (e0.bs b o e).1
    obtain ⟨a, xs, rfl, hl, ea, hQ⟩ := hsp
    have hvl : (V.ref a :: xs).length = (("self" : Str) :: ps).length := by simp [hl, hps]
    have gbase : ∀ {b : Addr} {o : Obj}, K.lookup b = some o → base.get? b = some o := fun e => e0.mod.kin _ _ e
    have hloc : ∀ x ∈ (("self" : Str) :: ps).zip us, (defScope st).names.lookup x.1 = some .local := fun ⟨n, v⟩ hy => S.par n (List.of_mem_zip hy).1
    refine ks_codeAny_call_defAt (binds := (("self" : Str) :: ps).zip us) hr.depth (KX _ _ lk) rfl lim (PySem.W.codeRec_of KX hcd) rfl hbi S.nocell hloc (fun h₁ hns kp => ?_) S.co S.gen S.kind
    have CA : NdefX.CellsAt [("__class__", cc)] ["__class__"] [some (.ref C)] s.heap H := by
      have hc0 : s.heap.get? cc = some ocl ∧ H cc = none := e0.bs _ _ (gbase lcc)
      refine ⟨rfl, fun y c' e => ?_, fun x y c' e1 e2 => ?_, fun i y hy => ?_⟩
      · have : c' = cc := by
          simp only [List.lookup] at e
          split at e
          · exact (Option.some.inj e).symm
          · cases e
        subst this
        exact ⟨hc0.2, _, ocl, hc0.1, dcc⟩
      · have one : ∀ z, List.lookup z [(("__class__" : Str), cc)] = some c' → z = "__class__" := fun z e => by
          simp only [List.lookup] at e
          split at e
          · rename_i q
            exact beq_iff_eq.mp q
          · cases e
        rw [one x e1, one y e2]
      · have : y = "__class__" := by
          cases i with
          | zero => exact (Option.some.inj hy).symm
          | succ i => simp at hy
        subst this
        refine ⟨cc, by simp [List.lookup], fun v hv => ?_⟩
        have : v = .ref C := by
          cases i with
          | zero => exact (Option.some.inj (Option.some.inj hv)).symm
          | succ i => simp at hv
        subst this
        exact ⟨_, rfl, ocl, hc0.1, dcc⟩
    have I : Inv (NdefX.ncx CX0 P w K mg base N (NdefX.NF.mk "__init__" qual (defArgs st) (defBody st) (defScope st) [("__class__", cc)] c) f A outer s H E) [] (NdefX.startF N (.ref a :: xs) [some (.ref C)]) H { s with heap := h₁, toks := s.toks + ((("self" : Str) :: ps).zip us).length } :=
      NdefX.inv_startN S hr.hd e0 hvl r CA hns kp
    have KX1 : K.In h₁ := KX.keeps kp
    obtain ⟨nm, Nn, qd, bs, bm, hdct, sn, sub, ab, col, dd, k0, k1, k2', k3', k5, hC1, hT⟩ := PySem.W.excInit_of KX1 T.init
    obtain ⟨t0, ho⟩ := exo_at I.hok ea
    obtain ⟨cdC, hclC, _⟩ := PySem.W.any_some T.hdC
    have hxC : a ≠ C := fun z => by
      rw [z] at ho
      rw [hC1] at ho
      cases ho
    obtain ⟨ar, har1, har2⟩ := Option.map_eq_some_iff.mp har
    have hself : ((("self" : Str) :: ps).zip us).reverse.lookup (("self" : Str)) = some (.ref a) := by
      cases r with
      | cons r1 r2 =>
        obtain rfl : _ = Value.ref a := r1
        exact NdefX.zip_look (i := 0) (by
          have q := S.nd.sublist (List.take_sublist ((("self" : Str) :: ps).length + [("__class__" : Str)].length) N)
          rw [S.pre] at q
          exact (List.nodup_append.mp q).1) rfl rfl
    obtain ⟨mb, hmb1, hmb2⟩ := e0.mod.blt
    have bk1 : ∀ b o, base.get? b = some o → h₁.get? b = some o := fun b o e => kp _ _ (e0.bs b o e).1
    show PySem.wpAt (model P w) _ (.func (defBody st) _) (execs (defBody st) _) _ _ _
    rw [hb]
    refine ks_wpAt_execs_cons (ks_wpAt_Expr_any (ks_wpAt_MethodCall (pl := do return (← importBound (.Call (.Name (("super" : Str)) p0) [] [] p1) (callEnv ((NdefX.NF.mk "__init__" qual (defArgs st) (defBody st) (defScope st) [("__class__", cc)] c).fd doc pm ctv) s.heap.objs.size f)).getD true) ?_ (call_form hln)) I.quiet)
    refine ks_wpAt_super_base (f := f) (cc := c) (ar := ar) (of := _) (oc := occ) (vs := fvs) (file := file) (tf := tf) hks (S.frk _ (by simp)) (by decide) rfl (kp _ _ (KX _ _ lk)) rfl har1 rfl (kp _ _ (KX _ _ lc)) dc hvs hfile htop ?_
    refine PySem.W.ks_loadName_global S.kind hks (Calls.loadGlobal_builtin (mg := mg) (e0.mod.glob.keeps bk1) gS (hmb1.keeps bk1) ((hmb2 _ (by decide)).trans type_super) ⟨rfl, ?_⟩)
    refine wpAny_loadName_free S.kind (S.frk _ (by simp)) rfl ⟨_, kp _ _ (KX _ _ lcc), dcc⟩ ?_
    refine wpAny_loadName_local S.kind (by rw [har2]; exact S.par _ (by simp)) hns (by rw [har2]; exact hself) ?_
    refine ks_wpAny_isType_cls hC1 rfl ⟨rfl, ?_⟩
    have IA : PySem.W.InstAt h₁ a { cls := .ref C, dict := none, data := .fields #[.ref t0, .none, .none, .none, .bool false, .none] } C none := ⟨ho, rfl, rfl, trivial⟩
    have subC : PySem.W.Looks (model P w) h₁ (isSubtype (.ref C) (.ref C)) true := PySem.W.looks_mroIn KX1 hmC
    refine ks_wpAny_call_super hC1 rfl ho rfl (fun c e => by cases e) subC (fun h2 e2 k2 => ?_)
    have I2 := I.kept (t' := s.toks + (((("self" : Str) :: ps)).zip us).length) k2
    have KX2 : K.In h2 := KX1.keeps k2
    have IA2 : PySem.W.InstAt h2 a { cls := .ref C, dict := none, data := .fields #[.ref t0, .none, .none, .none, .bool false, .none] } C none := ⟨k2 _ _ ho, rfl, rfl, trivial⟩
    have hin : PySem.W.Looks (model P w) h2 (isInstance (.ref a) (.type "Exception")) true := IA2.type.andThen (PySem.W.looks_subIn KX2 T.exE)
    have hmro : PySem.W.Looks (model P w) h2 (mroOf (.ref C)) cdC.mro := fun A Q E s k q => wpAny_bind ((PySem.W.looks_clsIn KX2 hclC) A _ E s k (wpAny_pure q))
    have hf2 : PySem.W.alongIn K "__init__" ((cdC.mro.dropWhile (· != .ref C)).drop 1) = some (some (.builtin "Exception.__init__")) := by
      have hm := hsu
      unfold PySem.W.ks_superIn at hm
      rw [hclC] at hm
      exact hm
    refine ESX.getMethod_super e2 (PySem.W.looks_opaque KX2 hop) hmro rfl KX2 hf2 hxC (by decide) hin ?_
    have hu : (h2.push (ESX.bw a)).get? h2.objs.size = some (ESX.bw a) := Heap.get?_push_size _ rfl
    have k3 : ∀ b o, h2.get? b = some o → (h2.push (ESX.bw a)).get? b = some o := fun b o e => Heap.get?_push_of_some _ e
    have I3 := I2.kept (h' := h2.push (ESX.bw a)) (t' := s.toks + (((("self" : Str) :: ps)).zip us).length + 1) k3
    refine ESX.callWith_bound (x := a) ?_
    show wpAny _ _ (spliced ((false, eval (.Constant (.str msg) j p3) _) :: backTo p4 (starEach [] _))) _ _ _
    refine Calls.spliced_cons (Calls.Constant_str ?_)
    refine Calls.spliced_nil ⟨hu, ?_⟩
    have hC3 : (h2.push (ESX.bw a)).get? C = some (excClassObj nm qd C Nn bs bm hdct sn sub ab col dd k0 k1 k2' k3' k5 "Exception.__new__") := k3 _ _ (k2 _ _ hC1)
    refine ESX.call_bw hC3 (k3 _ _ (k2 _ _ ho)) hu (by show 1 ≤ sizeLine; rw [sizeLine_eq]; omega) fun h4 t1 k4 hx4 => ?_
    have J := I3.write (h' := h4) (x := a) (e := a) (o := exo a C none) (t' := s.toks + (((("self" : Str) :: ps)).zip us).length + 1 + 1) (by rw [ea]; exact True.intro) (.inl rfl) k4 ⟨_, hx4⟩ (exo_ok hx4)
    have eu : upd H a (exo a C none) = H := by
      funext b
      by_cases hb : b = a
      · rw [hb, upd_same, ea]
      · rw [upd_ne hb]
    rw [eu] at J
    obtain ⟨tt, ht, hq⟩ := hrest A outer s H cc c a xs Q E hl ea hQ
    refine wpAt_of_wpAny (wpAny_mono (ht.nox.run [] _ _ H _ J hq) (fun fl s' hs => ?_) fun e s' hs => hs)
    have fin : ∀ {σ' : L2.St} {H' : Hp} {v : V} {u : Value}, Inv (NdefX.ncx CX0 P w K mg base N (NdefX.NF.mk "__init__" qual (defArgs st) (defBody st) (defScope st) [("__class__", cc)] c) f A outer s H E) [] σ' H' s' → L2.RelV v u → Q v H' → CE outer P w H s Q u s' :=
      fun {σ' H' v u} J rv q => ⟨v, H', J.os, J.bare, J.base, J.hok, rv, q⟩
    cases fl with
    | ret u =>
      obtain ⟨v, σ', H', J, rv, q⟩ := hs
      exact fin J rv q
    | next =>
      obtain ⟨σ', H', J, q⟩ := hs
      exact fin (v := V.non) (u := Value.none) J rfl q
    | brk =>
      obtain ⟨_, _, _, q⟩ := hs
      exact False.elim q
    | cont =>
      obtain ⟨_, _, _, q⟩ := hs
      exact False.elim q
theorem no_swap {env : Env} (hk : env.scope.kind = .function) {o1 o2 : Expr} {a1 a2 : Str} {q1 q2 q3 : Pos} {n1 : Nat} {v : Expr} : swappedStores [.Tuple [.Attribute o1 a1 q1, .Attribute o2 a2 q2] n1 q3] v env = pure none := by
  have e : env.blockKind = .function := by
    unfold Env.blockKind
    rw [hk]
    rfl
  unfold swappedStores
  cases v <;> first | rfl | skip
  rename_i vs _ _
  simp only [e]
  split
  · rfl
  · split
    · rfl
    · rename_i h
      split
      · rfl
      · rename_i h2
        exact absurd (by rfl) h2
/-- self.fl = g -/
theorem ok_x1 {qual : Str} {st : Stmt} {msg g fl : Str} {j : Nat} {p0 p1 p2 p3 p4 p5 q1 q2 q3 q4 : Pos} (F : SuF P K qual st C f fd) (T : ExK K C) (hno : PySem.W.findIn K (.ref C) fl = some none)
    (hb : defBody st = .Expr (.Call (.Attribute (.Call (.Name "super" p0) [] [] p1) "__init__" p2) [.Constant (.str msg) j p3] [] p4) p5 :: [.Assign [.Attribute (.Name "self" q1) fl q2] (.Name g q3) q4])
    (S : NdefX.NScope ["self", g, "__class__"] [(("self" : Str)), g] ["__class__"] (defScope st)) (hks : (defScope st).names.lookup ("super" : Str) = some .globalImplicit)
    (har : ((defArgs st).posonlyargs ++ (defArgs st).args).head?.map (·.arg) = some (("self" : Str)))
    (hsu : PySem.W.ks_superIn K C C "__init__" = some (some (.builtin "Exception.__init__"))) (hmC : PySem.W.mroIn K C (.ref C) = some true) (hop : PySem.W.nsIn K cStatics "thirdparty.any" = some none)
    (hln : (p2.endLine == p4.line) = true) (gS : mg "super" = none) (htop : (P.main.scope.names.lookup ("super" : Str)).isSome = false) (hd : (g == ("__debug__" : Str)) = false) (hcd : (g == ("__classdict__" : Str)) = false) :
    FnOk P w K mg base CX0 (k + 1) f fd [(("self" : Str)), g] (spX C 1 fun xs => [(fl, xs.headD .non)]) := by
  refine ok_xinit F T hb S rfl hks har hsu hmC hop hln gS htop fun A outer s H cc c a xs Q E hl ea hQ => ?_
  match xs, hl with
  | [x], _ =>
    refine ⟨_, pss_one (ps_asg (pe_var (i := 1) rfl (.inl (S.par g (by simp))) hd hcd) (pg_ost (pe_var (i := 0) rfl (.inl (S.par _ (by simp))) (by decide) (by decide)))), ?_⟩
    refine ⟨x, rfl, .ref a, rfl, a, C, rfl, T, hno, .inl ⟨ea, fun dx hd hne => ?_⟩⟩
    refine hQ _ dx (fun b o hb e => ?_) hd hne upd_same ?_
    · rw [upd_ne hb, upd_ne (ne_of_none e hd)]
      exact e
    · rw [upd_ne hne, upd_same]
      rfl
/-- self.f1, self.f2 = g1, g2 -/
theorem ok_x2 {qual : Str} {st : Stmt} {msg g1 g2 f1 f2 : Str} {j n1 n2 : Nat} {p0 p1 p2 p3 p4 p5 q1 q2 q3 q4 q5 q6 q7 q8 q9 : Pos} (F : SuF P K qual st C f fd) (T : ExK K C) (hno1 : PySem.W.findIn K (.ref C) f1 = some none) (hno2 : PySem.W.findIn K (.ref C) f2 = some none)
    (hb : defBody st = .Expr (.Call (.Attribute (.Call (.Name "super" p0) [] [] p1) "__init__" p2) [.Constant (.str msg) j p3] [] p4) p5 :: [.Assign [.Tuple [.Attribute (.Name "self" q1) f1 q2, .Attribute (.Name "self" q3) f2 q4] n1 q5] (.Tuple [.Name g1 q6, .Name g2 q7] n2 q8) q9])
    (S : NdefX.NScope ["self", g1, g2, "__class__"] [(("self" : Str)), g1, g2] ["__class__"] (defScope st)) (hks : (defScope st).names.lookup ("super" : Str) = some .globalImplicit)
    (har : ((defArgs st).posonlyargs ++ (defArgs st).args).head?.map (·.arg) = some (("self" : Str)))
    (hsu : PySem.W.ks_superIn K C C "__init__" = some (some (.builtin "Exception.__init__"))) (hmC : PySem.W.mroIn K C (.ref C) = some true) (hop : PySem.W.nsIn K cStatics "thirdparty.any" = some none)
    (hln : (p2.endLine == p4.line) = true) (gS : mg "super" = none) (htop : (P.main.scope.names.lookup ("super" : Str)).isSome = false) (hd1 : (g1 == ("__debug__" : Str)) = false) (hcd1 : (g1 == ("__classdict__" : Str)) = false)
    (hd2 : (g2 == ("__debug__" : Str)) = false) (hcd2 : (g2 == ("__classdict__" : Str)) = false) :
    FnOk P w K mg base CX0 (k + 1) f fd [(("self" : Str)), g1, g2] (spX C 2 fun xs => [(f2, xs.getD 1 .non), (f1, xs.getD 0 .non)]) := by
  refine ok_xinit F T hb S rfl hks har hsu hmC hop hln gS htop fun A outer s H cc c a xs Q E hl ea hQ => ?_
  match xs, hl with
  | [x, y], _ =>
    refine ⟨_, pss_one (ps_asg (pe_tup (pa_cons (pe_var (i := 1) rfl (.inl (S.par g1 (by simp))) hd1 hcd1) (pa_cons (pe_var (i := 2) rfl (.inl (S.par g2 (by simp))) hd2 hcd2) pa_nil)))
      (pg_tup rfl (pgs_cons (pg_ost (pe_var (i := 0) rfl (.inl (S.par _ (by simp))) (by decide) (by decide))) (pgs_cons (pg_ost (pe_var (i := 0) rfl (.inl (S.par _ (by simp))) (by decide) (by decide))) pgs_nil))) (hw := no_swap S.kind)), ?_⟩
    refine ⟨x, rfl, y, rfl, two_ok, fun p hp => ⟨p, [x, y], rfl, SqT.of upd_same, rfl, x, [y], rfl, ?_⟩⟩
    have hap : a ≠ p := ne_of_none ea hp
    refine ⟨.ref a, rfl, a, C, rfl, T, hno1, .inl ⟨by rw [upd_ne hap]; exact ea, fun dx hd hne => ?_⟩⟩
    refine ⟨y, [], rfl, .ref a, rfl, a, C, rfl, T, hno2, .inr ⟨dx, [(f1, x)], upd_same, by rw [upd_ne hne, upd_same], by simp, rfl, ?_⟩⟩
    have hdp : H dx = none ∧ dx ≠ p := by
      by_cases e : dx = p
      · rw [e, upd_same] at hd
        cases hd
      · rw [upd_ne e] at hd
        exact ⟨hd, e⟩
    refine hQ _ dx (fun b o hb e => ?_) hdp.1 hne ?_ upd_same
    · rw [upd_ne (ne_of_none e hdp.1), upd_ne hb, upd_ne (ne_of_none e hdp.1), upd_ne (ne_of_none e hp)]
      exact e
    · rw [upd_ne (Ne.symm hne), upd_same]
end
end EX2
set_option Elab.async false
set_option linter.all false
set_option maxRecDepth 100000
set_option maxHeartbeats 2000000
namespace EX2
open PySem PySem.Spec PyProof.Rows L2
/-- C(e, ..) -/
def tMkX (C : Addr) (n : Nat) (fs : List V → List (Str × V)) (ta : TA) : TE := fun σ H Q => ta σ H fun vs H1 => vs.length = n ∧ ∀ (a dx : Addr) (H' : Hp), H1 a = none → H1 dx = none → dx ≠ a → Evl.Ex H1 H' → H' a = some (exo a C (some dx)) → H' dx = some (exd dx (fs vs)) → Q (.ref a) H'
section
variable {X : Cx} {e : Expr} {es : List Expr} {ta : TA} {p pos : Pos}
theorem pe_mkx {x : Str} {C fI : Addr} {k n : Nat} {fd : FuncData} {ps : List Str} {fs : List V → List (Str × V)} (T : ExK X.K C) (iC : PySem.W.findIn X.K (.ref C) "__init__" = some (some (.ref fI))) (tI : PySem.W.typeIn X.K (.ref fI) = some (.type "function"))
    (F1 : FnOk X.prog X.w X.K X.mg X.base CX0 k fI fd ps (spX C n fs)) (hr : Room (k + 1) X.A) (hb : Binds X.K fd ps []) (hg : Gl X x) (hm : X.mg x = some (.ref C)) (hn : n ≤ 1000) (ha : PA X (e :: es) ta)
    (hdb : (x == ("__debug__" : Str)) = false := by decide) (he : starEach (e :: es) X.env = (false, eval e X.env) :: starEach es X.env := by rfl) (hpl : (backTo pos (starEach es X.env)).any (·.1) = false := by rfl) :
    PE X (.Call (.Name x p) (e :: es) [] pos) (tMkX C n fs ta) := by
  refine ⟨fun pins s σ H Q I h => ?_⟩
  refine wpAny_Call_Name_kw (ld_glob I hg hm ?_ hdb)
  refine PySem.W.callWith_K (h₀ := X.base) I.ok.mod.kin T.kC (thn (ha.run pos pins s σ H _ I h) fun us s1 ⟨vs, H1, I1, r1, hz, q1⟩ => ⟨I1.kIn, ?_⟩) he hpl
  show wpAny _ _ (call (.ref C) us) _ _ _
  obtain ⟨nm, Nn, qd, bs, bm, hdct, sn, sub, ab, col, dd, k0, k1, k2, k3, k5, hC, hT⟩ := PySem.W.excInit_of I1.kIn T.init
  obtain ⟨hp, g, dr, tk, os⟩ := s1
  have hsz : hp.objs.size ≤ hp.objs.size + 1 := Nat.le_succ _
  have hn1 : H1 (hp.objs.size + 1) = none := I1.hok.fresh hsz
  have kk : ∀ b o, hp.get? b = some o → ((hp.push (PySem.W.kdv_tup us)).push (PySem.HandSPX.excO C hp.objs.size)).get? b = some o := fun b o e => Heap.get?_push_of_some _ (Heap.get?_push_of_some _ e)
  have hget : ((hp.push (PySem.W.kdv_tup us)).push (PySem.HandSPX.excO C hp.objs.size)).get? (hp.objs.size + 1) = some (PySem.HandSPX.excO C hp.objs.size) := by heap_get
  have I2 : Inv X pins σ (upd H1 (hp.objs.size + 1) (exo (hp.objs.size + 1) C none)) ⟨(hp.push (PySem.W.kdv_tup us)).push (PySem.HandSPX.excO C hp.objs.size), g, dr, tk, os⟩ :=
    I1.laid (t' := tk) (a := hp.objs.size + 1) (o := exo (hp.objs.size + 1) C none) (h' := (hp.push (PySem.W.kdv_tup us)).push (PySem.HandSPX.excO C hp.objs.size)) kk hsz (exo_ok hget)
  have r2 : Vals (V.ref (hp.objs.size + 1) :: vs) (Value.ref (hp.objs.size + 1) :: us) := .cons rfl r1
  have hus : us.length ≤ sizeLine := by
    rw [← Paired.length r1, hz, sizeLine_eq]
    omega
  have hsp : spX C n fs (V.ref (hp.objs.size + 1) :: vs) (upd H1 (hp.objs.size + 1) (exo (hp.objs.size + 1) C none)) (fun v H2 => v = .non ∧ Q (.ref (hp.objs.size + 1)) H2) (fun _ _ _ => False) := by
    refine ⟨_, vs, rfl, hz, upd_same, fun H' dx k1 hd hne h1 h2 => ⟨rfl, ?_⟩⟩
    rw [upd_ne hne] at hd
    refine q1 _ dx H' hn1 hd hne (fun b o hb => ?_) h1 h2
    have hba : b ≠ hp.objs.size + 1 := ne_of_none hb hn1
    refine k1 b o hba ?_
    rw [upd_ne hba]
    exact hb
  have hlen := F1.len _ _ _ _ hsp
  have hbt := hb ⟨(hp.push (PySem.W.kdv_tup us)).push (PySem.HandSPX.excO C hp.objs.size), g, dr, tk, os⟩ (Value.ref (hp.objs.size + 1) :: us) I2.kIn (by rw [List.append_nil, ← r2.length]; exact hlen)
  rw [List.append_nil] at hbt
  refine wpAny_call (PySem.HandSPX.call_own F.excBase_Exception hT hC (PySem.W.looks_findIn I1.kIn iC) (fun self => PySem.W.bind_fn I1.kIn self tI) hus
    (codeAny_mono (F1.run _ X.stack _ _ ⟨Value.ref (hp.objs.size + 1) :: us, []⟩ (Value.ref (hp.objs.size + 1) :: us) _ _ (fun _ _ _ => False) (hr.make C us []) (I2.env0.make C us []) hbt r2 hsp) fun r s' hq' => ?_))
  cases r with
  | error er => exact False.elim hq'
  | ok fl =>
    cases fl with
    | ret u =>
      have hq2 : CE X.stack X.prog X.w _ _ _ u s' := hq'
      obtain ⟨v, H2, I3, rv, ev, q2⟩ := I2.after hq2
      subst ev
      exact ⟨rv, ⟨V.ref (hp.objs.size + 1), H2, I3, rfl, q2⟩⟩
    | next => exact False.elim hq'
    | brk => exact False.elim hq'
    | cont => exact False.elim hq'
/-! ### fields -/
/-- e.f, e an exception -/
def tXg (K : PySem.W.Frag) (f : Str) (te : TE) : TE := fun σ H Q => te σ H fun x H1 => ∃ (a C dx : Addr) (fs : List (Str × V)) (v : V), x = .ref a ∧ XfC K C ∧ PySem.W.findIn K (.ref C) f = some none ∧ H1 a = some (exo a C (some dx)) ∧ H1 dx = some (exd dx fs) ∧ fs.lookup f = some v ∧ Q v H1
theorem pe_xg {f : Str} {te : TE} (he : PE X e te) (hb : attributeBase e f X.env (eval e X.env) = eval e X.env := by rfl) : PE X (.Attribute e f pos) (tXg X.K f te) := by
  refine ⟨fun pins s σ H Q I h => ?_⟩
  refine attr_of hb (thn (he.run pins s σ H _ I h) fun u s1 hh => ?_)
  obtain ⟨x, H1, I1, rx, a, C, dx, fs, v, ex, T, hno, ea, ed, l, q⟩ := hh
  subst ex
  obtain rfl : u = Value.ref a := rx
  obtain ⟨t1, ho⟩ := exo_at I1.hok ea
  obtain ⟨mA, hns, rel⟩ := exd_at I1.hok ed
  obtain ⟨od, hod, hl⟩ := lookIn_ns hns
  obtain ⟨u, hu, ru⟩ := RelO.some_of (v := v) (o := mA f) (by rw [← l]; exact rel f)
  have J : PySem.W.InstAt s1.heap a { cls := .ref C, dict := some dx, data := .fields #[.ref t1, .none, .none, .none, .bool false, .none] } C (some od) := ⟨ho, rfl, rfl, hod⟩
  exact HandSPX.exc_get I1.kIn J T.ga T.gg T.exC (PySem.W.findObj_own T.hdC hno rfl (by rw [hl, hu])) (handed_of ru) ⟨v, H1, I1.tok _, ru, q⟩
end
end EX2
set_option Elab.async false
set_option linter.all false
set_option maxRecDepth 100000
set_option maxHeartbeats 4000000
namespace PySem.W
open PySem PySem.Spec PySem.Calls PyProof.Rows
section
variable {prog : Program} {w : World} {A : Around} {E : Value → Shared → Prop} {s : Shared} {K : Frag} {x D : Addr} {ox : Obj} {od : Option Obj}
theorem findObj_dataO {C : Addr} {name : Str} {a g : Value} (hc : (clsIn K C).isSome = true) (ha : findIn K (.ref C) name = some (some a)) (hg : specialIn K a "__get__" = some (some g)) (ht : takesIn K a = some true) : findObj K C od name = some (.bind g a) := by
  obtain ⟨cd, hc⟩ := Option.isSome_iff_exists.mp hc
  unfold findObj
  rw [hc, Option.bind_some, ha, Option.bind_some]
  simp [hg, ht]
theorem kin_classD {Q : Option Value → Shared → Prop} (hga : findIn K (.ref D) "__getattribute__" = some (some (.builtin "BaseException.__getattribute__"))) (hgt : findIn K (.ref D) "__getattr__" = some none) (hsub : subIn K (.ref D) (.type "BaseException") = some true)
    (hdct : hasDictIn K D = true) (ha : findIn K (.ref D) "__class__" = some (some (.builtin "object.__class__")))
    (hn : specialIn K (.builtin "object.__class__") "__get__" = some (some (.builtin "getset_descriptor.__get__"))) (htk : takesIn K (.builtin "object.__class__") = some true) (hm : mroIn K D (.type "object") = some true)
    (X : K.In s.heap) (I : InstAt s.heap x ox D od) (h : Q (some (.ref D)) { s with toks := s.toks + 1 }) : wpAny (model prog w) A (getAttr? (.ref x) "__class__") Q E s := by
  have hf : findObj K D od "__class__" = some (.bind (.builtin "getset_descriptor.__get__") (.builtin "object.__class__")) := findObj_dataO (by obtain ⟨cd, hc, _⟩ := any_some hdct; rw [hc]; rfl) ha hn htk
  obtain ⟨hp, g, d, t, os⟩ := s
  have L0 := I.type (M := model prog w)
  have L1 := looks_findIn (M := model prog w) X hga
  have L2 := looks_findIn (M := model prog w) X hgt
  have L3 := looks_find (M := model prog w) X I hf
  have sub : Looks (model prog w) hp (isInstance (.ref x) (.type "BaseException")) true := L0.andThen (looks_subIn X hsub)
  have hx0 : (false && onTheHeap (Value.builtin "BaseException.__getattribute__")) = false := rfl
  have hx2 : (Value.builtin "BaseException.__getattribute__" == Value.builtin "object.__getattribute__") = false := by decide +kernel
  have hx1 : (onTheHeap (Value.ref D) && Value.builtin "BaseException.__getattribute__" == Value.builtin "object.__getattribute__") = false := by rw [hx2]; rfl
  unfold getAttr? getAttrBy? getAttrBy
  refine wpAny_bind (wpAny_mkText (wpAny_bind (wpAny_attempt (wpAny_holding (wpAny_bind (L0.at (wpAny_bind (L1.at ?_))))))))
  show wpAny _ _ (if (onTheHeap (Value.ref D) && Value.builtin "BaseException.__getattribute__" == Value.builtin "object.__getattribute__") = true then _ else _) _ _ _
  rw [hx1, if_neg Bool.false_ne_true]
  unfold getAttrByItsOwn hookBefore
  refine wpAny_bind ?_
  rw [if_pos (show onTheHeap (Value.ref D) = true from rfl)]
  refine L2.at ?_
  refine wpAny_bind (wpAny_attempt (wpAny_holding ?_))
  unfold callGetattribute
  rw [hx0, if_neg Bool.false_ne_true]
  unfold boundAndCalled
  rw [PySem.F.excAttr_ValueError.ga.bind (.ref x)]
  refine wpAny_bind (wpAny_pure ?_)
  show wpAny _ _ (call (.builtin "BaseException.__getattribute__") [.ref x, .str "__class__" t]) _ _ _
  refine wpAny_call (codeAny_call_builtin PySem.F.excAttr_ValueError.ga.plain PySem.F.entry_bexc_ga ?_)
  refine @check_slot (model prog w) _ _ ⟨hp, g, d, t + 1, os⟩ "BaseException.__getattribute__" "BaseException" "__getattribute__" (.ref x) [.str "__class__" t] [] _ (by decide +kernel) (by decide +kernel) sub (PySem.F.args_bexc_ga (.ref x) (.str "__class__" t)) ?_
  unfold Builtin.«object.__getattribute__»
  refine wpAny_bind (wpAny_of_eq (a := ((Value.ref x : Value), [Value.str "__class__" t])) (by first | rfl | (simp only [slotArgs]; rfl)) ?_)
  refine wpAny_bind (wpAny_pure (wpAny_bind (L0.at (wpAny_bind (L3.at ?_)))))
  show wpAny _ _ (holding [Value.builtin "object.__class__"] (call (.builtin "getset_descriptor.__get__") [.builtin "object.__class__", .ref x, .ref D]) >>= ret) _ _ _
  refine wpAny_bind (wpAny_holding (wpAny_call (class_get (s := ⟨hp, g, d, t + 1, os⟩) (ox := ox) (od := od) X I hm ?_)))
  refine wpAny_pure ?_
  show wpAny _ _ (handedOut (.ref D)) _ _ _
  rw [handedOut_of (v := .ref D) rfl]
  first
    | exact wpAny_pure (wpAny_pure h)
    | exact wpAny_pure h
    | exact wpAny_pure (wpAny_bind (wpAny_pure (wpAny_pure h)))
theorem kitx_excD (hga : findIn K (.ref D) "__getattribute__" = some (some (.builtin "BaseException.__getattribute__"))) (hgt : findIn K (.ref D) "__getattr__" = some none) (hsub : subIn K (.ref D) (.type "BaseException") = some true) (hdct : hasDictIn K D = true) (ha : findIn K (.ref D) "__class__" = some (some (.builtin "object.__class__")))
    (hn : specialIn K (.builtin "object.__class__") "__get__" = some (some (.builtin "getset_descriptor.__get__"))) (htk : takesIn K (.builtin "object.__class__") = some true) (hm : mroIn K D (.type "object") = some true) :
    KitX K (.ref x) (.ref D) (fun h => InstAt h x ox D od) where
  ty := fun _ _ _ I => I.type
  it := fun _ _ X _ => by
    obtain ⟨cdD, hcD, _⟩ := any_some hdct
    unfold clsIn at hcD
    split at hcD
    · rename_i c' d' cd' sl' ho
      intro A' Q' E' s' k q
      unfold isType loadHead
      exact wpAny_bind (wpAny_loadPart (k _ _ (X _ _ ho)) (wpAny_pure q))
    · cases hcD
  ne := fun h tp dd its n sl X htp => by
    obtain ⟨cdD, hcD, _⟩ := any_some hdct
    refine Bool.eq_false_iff.mpr fun q => ?_
    have e : D = tp := Value.ref.inj (beq_iff_eq.mp q)
    subst e
    unfold clsIn at hcD
    split at hcD
    · rename_i c' d' cd' sl' ho
      have z := (X _ _ ho).symm.trans htp
      cases z
    · cases hcD
  ca := fun X I k => kin_classD hga hgt hsub hdct ha hn htk hm X I k
end
end PySem.W
namespace EX2
open PySem PySem.Spec PyProof.Rows L2
/-- an exception that is held as a value -/
def ExAt (H : Hp) (a C : Addr) (fs : List (Str × V)) : Prop := ∃ dx, H a = some (exo a C (some dx)) ∧ H dx = some (exd dx fs)
theorem ExAt.ext {H H' : Hp} {a C : Addr} {fs : List (Str × V)} (h : ExAt H a C fs) (e : Evl.Ex H H') : ExAt H' a C fs := by
  obtain ⟨dx, h1, h2⟩ := h
  exact ⟨dx, e _ _ h1, e _ _ h2⟩
theorem ExAt.inst {X : Cx} {pins : List (Addr × Obj)} {σ : L2.St} {H : Hp} {s : Shared} {a C : Addr} {fs : List (Str × V)} (I : Inv X pins σ H s) (h : ExAt H a C fs) : ∃ ox od, PySem.W.InstAt s.heap a ox C (some od) := by
  obtain ⟨dx, ea, ed⟩ := h
  obtain ⟨t1, ho⟩ := exo_at I.hok ea
  obtain ⟨mA, hns, rel⟩ := exd_at I.hok ed
  obtain ⟨od, hod, hl⟩ := lookIn_ns hns
  exact ⟨{ cls := .ref C, dict := some dx, data := .fields #[.ref t1, .none, .none, .none, .bool false, .none] }, od, ho, rfl, rfl, hod⟩
/-- isinstance(e, c) -/
def rIsX (K : PySem.W.Frag) : List V → Hp → VK → Prop := fun xs H Q => ∃ (a C : Addr) (fs : List (Str × V)) (c : V) (u : Value) (b : Bool), xs = [.ref a, c] ∧ ClsV c u ∧ ExAt H a C fs ∧ ExcC K C ∧ PySem.W.kitOne K (.ref C) u = some b ∧ Q (.bl b) H
/-- isinstance(e, (c1, c2, ..)) -/
def rIsXT (K : PySem.W.Frag) : List V → Hp → VK → Prop := fun xs H Q => ∃ (a C : Addr) (fs : List (Str × V)) (tp : Addr) (cs : List V) (us : List Value) (b : Bool), xs = [.ref a, .ref tp] ∧ H tp = some (.tup cs) ∧ Paired ClsV cs us ∧ ExAt H a C fs ∧ ExcC K C ∧ PySem.W.kitAny K (.ref C) us = some b ∧ Q (.bl b) H
section
variable {X : Cx}
theorem call_isX : CallR X (.builtin "isinstance") (rIsX X.K) := by
  intro pins s σ H xs us Q I r h
  obtain ⟨a, C, fs, c, u, b, rfl, k, ha, T, e, q⟩ := h
  obtain ⟨u1, u2, rfl, r1, r2⟩ := vals2 r
  have e2 := k.eq r2
  subst e2
  obtain rfl : u1 = Value.ref a := r1
  obtain ⟨ox, od, J⟩ := ha.inst I
  exact PySem.W.kia_one (PySem.W.kitx_excD T.hg T.hk T.hs T.hd T.ha T.hn T.ht T.hm) I.kIn J e (fun z => nomatch z) fun tk => ⟨.bl b, H, I.tok tk, rfl, q⟩
theorem call_isXT : CallR X (.builtin "isinstance") (rIsXT X.K) := by
  intro pins s σ H xs us Q I r h
  obtain ⟨a, C, fs, tp, cs, ws, b, rfl, et, k, ha, T, e, q⟩ := h
  obtain ⟨u1, u2, rfl, r1, r2⟩ := vals2 r
  obtain rfl : u1 = Value.ref a := r1
  obtain rfl : u2 = Value.ref tp := r2
  obtain ⟨ox, od, J⟩ := ha.inst I
  obtain ⟨_, its, rv, o, h1, h2, n, h3⟩ := (show ObjOk X.prog X.w H s.heap tp (.tup cs) from I.hok tp _ et)
  have e3 := ClsV.all k rv
  subst e3
  obtain ⟨oc, od2, dt, sl⟩ := o
  simp only at h2 h3
  subst h2 h3
  exact PySem.W.kia_tup (PySem.W.kitx_excD T.hg T.hk T.hs T.hd T.ha T.hn T.ht T.hm) I.kIn J h1 e (fun z => nomatch z) fun tk => ⟨.bl b, H, I.tok tk, rfl, q⟩
end
/-! ### what a value is, told by the heap: data with dicts of ints and texts -/
def kD : Key → PyData
  | .inl i => .int i
  | .inr x => .str x
mutual
inductive Dq (H : Hp) : V → PyData → Prop
  | non : Dq H .non .none
  | bl (b : Bool) : Dq H (.bl b) (.bool b)
  | int (i : Int) : Dq H (.int i) (.int i)
  | str (x : Str) : Dq H (.str x) (.str x)
  | lst {a : Addr} {xs : List V} {ds : List PyData} (e : H a = some (.lst xs)) (h : DqAll H xs ds) : Dq H (.ref a) (.list ds)
  | tup {a : Addr} {xs : List V} {ds : List PyData} (e : H a = some (.tup xs)) (h : DqAll H xs ds) : Dq H (.ref a) (.tuple ds)
  | dk {a : Addr} {kvs : List (Key × V)} {ds : List PyData} (e : H a = some (.dK kvs)) (h : DqAll H (kvs.map (·.2)) ds) : Dq H (.ref a) (.dict ((kvs.map fun p => kD p.1).zip ds))
inductive DqAll (H : Hp) : List V → List PyData → Prop
  | nil : DqAll H [] []
  | cons {x : V} {xs : List V} {d : PyData} {ds : List PyData} (h : Dq H x d) (t : DqAll H xs ds) : DqAll H (x :: xs) (d :: ds)
end
mutual
theorem Dq.ext {H H' : Hp} (e : Evl.Ex H H') : ∀ {x : V} {d : PyData}, Dq H x d → Dq H' x d
  | _, _, .non => .non
  | _, _, .bl b => .bl b
  | _, _, .int i => .int i
  | _, _, .str x => .str x
  | _, _, .lst q h => .lst (e _ _ q) (DqAll.ext e h)
  | _, _, .tup q h => .tup (e _ _ q) (DqAll.ext e h)
  | _, _, .dk q h => .dk (e _ _ q) (DqAll.ext e h)
theorem DqAll.ext {H H' : Hp} (e : Evl.Ex H H') : ∀ {xs : List V} {ds : List PyData}, DqAll H xs ds → DqAll H' xs ds
  | _, _, .nil => .nil
  | _, _, .cons h t => .cons (Dq.ext e h) (DqAll.ext e t)
end
section
variable {P : Program} {w : World} {H : Hp} {h : Heap}
theorem keys_reads {es : List DictEntry} {vs : List (Key × Value)} (p : PySem.Pairs (mixKind P w) es vs) : ReadsAll h (es.map (·.key)) (vs.map fun q => kD q.1) [] := by
  induction p with
  | nil => exact .nil
  | @cons e kv es kvs hk _ _ ih =>
    refine .cons (as := []) (bs := []) ?_ ih
    show Reads h e.key (kD kv.1) []
    rcases keyIs_shape hk with ⟨i, t, e1, e2⟩ | ⟨x, t, e1, e2⟩
    · rw [e2, e1]
      exact .int i t
    · rw [e2, e1]
      exact .str x t
theorem vals_pairs {es : List DictEntry} {vs : List (Key × Value)} (p : PySem.Pairs (mixKind P w) es vs) : es.map (·.val) = vs.map (·.2) := by
  induction p with
  | nil => rfl
  | cons hk hv _ ih => simp [ih, hv]
theorem kv_vals {kvs : List (Key × V)} {vs : List (Key × Value)} (r : KV kvs vs) : L2.Vals (kvs.map (·.2)) (vs.map (·.2)) ∧ (kvs.map fun p => kD p.1) = vs.map fun p => kD p.1 := by
  unfold KV at r
  induction r with
  | nil => exact ⟨.nil, rfl⟩
  | cons h _ ih => exact ⟨.cons h.2 ih.1, by simp only [List.map_cons, ih.2, h.1]⟩
theorem DqAll.length {xs : List V} {ds : List PyData} (q : DqAll H xs ds) : xs.length = ds.length := by
  induction xs generalizing ds with
  | nil => cases q; rfl
  | cons x xs ih =>
    cases q with
    | cons _ t => simp [ih t]
/-- sys.modules is a dict -/
def SysD (h : Heap) : Prop := ∃ o es n, h.get? sysModules = some o ∧ o.data = .dict es n
mutual
theorem Dq.reads (ok : HOk P w H h) (sd : SysD h) : ∀ {x : V} {d : PyData} (u : Value), Dq H x d → L2.RelV x u → ∃ as, Reads h u d as ∧ sysModules ∉ as
  | _, _, u, .non, r => by
    obtain rfl : u = Value.none := r
    exact ⟨_, .none, by simp⟩
  | _, _, u, .bl b, r => by
    obtain rfl : u = Value.bool b := r
    exact ⟨_, .bool b, by simp⟩
  | _, _, u, .int i, r => by
    obtain ⟨t, rfl⟩ := r
    exact ⟨_, .int i t, by simp⟩
  | _, _, u, .str x, r => by
    obtain ⟨t, rfl⟩ := r
    exact ⟨_, .str x t, by simp⟩
  | _, _, u, .lst (a := a) (xs := xs) e q, r => by
    obtain rfl : u = Value.ref a := r
    obtain ⟨hz, its, n, rv, ho⟩ := (show ObjOk P w H h a (.lst xs) from ok a _ e)
    obtain ⟨as, rs, hn⟩ := DqAll.reads ok sd its q rv
    refine ⟨_, .list ho rfl rfl rs, fun z => ?_⟩
    rcases List.mem_cons.mp z with z | z
    · obtain ⟨o, es, m, h1, h2⟩ := sd
      rw [z, ho] at h1
      cases h1
      cases h2
    · exact hn z
  | _, _, u, .tup (a := a) (xs := xs) e q, r => by
    obtain rfl : u = Value.ref a := r
    obtain ⟨hz, its, rv, o, h1, h2, n, h3⟩ := (show ObjOk P w H h a (.tup xs) from ok a _ e)
    obtain ⟨as, rs, hn⟩ := DqAll.reads ok sd its q rv
    exact ⟨_, .tuple h1 h2 h3 rs, hn⟩
  | _, _, u, .dk (a := a) (kvs := kvs) (ds := ds) e q, r => by
    obtain rfl : u = Value.ref a := r
    obtain ⟨hz, hs, vs, rk, o, es, ep, h1, h2, h3, _, h5, _⟩ := (show ObjOk P w H h a (.dK kvs) from ok a _ e)
    obtain ⟨rv, ek⟩ := kv_vals rk
    obtain ⟨as, rs, hn⟩ := DqAll.reads ok sd _ q rv
    have hl : (kvs.map fun p => kD p.1).length = ds.length := by
      have := DqAll.length q
      rw [List.length_map] at this
      rw [List.length_map]
      exact this
    refine ⟨_, .dict h1 h2.1 h3 (as := []) (bs := as) ?_ ?_, fun z => ?_⟩
    · rw [List.map_fst_zip (Nat.le_of_eq hl), ek]
      exact keys_reads h5
    · rw [List.map_snd_zip (Nat.le_of_eq hl.symm), vals_pairs h5]
      exact rs
    · rcases List.mem_cons.mp (show sysModules ∈ a :: as from z) with z | z
      · rw [z] at hs
        simp at hs
      · exact hn z
theorem DqAll.reads (ok : HOk P w H h) (sd : SysD h) : ∀ {xs : List V} {ds : List PyData} (us : List Value), DqAll H xs ds → L2.Vals xs us → ∃ as, ReadsAll h us ds as ∧ sysModules ∉ as
  | _, _, _, .nil, .nil => ⟨_, .nil, by simp⟩
  | _, _, _, .cons (d := d) q t, .cons r rs => by
    obtain ⟨a1, h1, n1⟩ := Dq.reads ok sd _ q r
    obtain ⟨a2, h2, n2⟩ := DqAll.reads ok sd _ t rs
    exact ⟨_, .cons h1 h2, by rw [List.mem_append]; exact fun z => z.elim n1 n2⟩
end
end
end EX2
set_option Elab.async false
set_option linter.all false
set_option maxRecDepth 100000
set_option maxHeartbeats 4000000
namespace EX2
open PySem PySem.Spec PyProof.Rows L2
/-! ### repr of data; the stack holds no repr -/
def rReprD : List V → Hp → VK → Prop := fun xs H Q => ∃ (x : V) (d : PyData), xs = [x] ∧ Dq H x d ∧ d.showable = true ∧ d.shown.length ≤ sizeLine ∧ d.depth ≤ 60 ∧ Q (.str d.shown) H
section
variable {X : Cx}
theorem call_reprD (hg : X.A.guards = some []) (hu : X.A.units + 65 < cLine) (sd : SysD X.base) : CallR X (.builtin "repr") rReprD := by
  intro pins s σ H xs us Q I r h
  obtain ⟨x, d, rfl, hd, hs, hz, hdp, q⟩ := h
  obtain ⟨u, rfl, r1⟩ := vals1 r
  have sd1 : SysD s.heap := by
    obtain ⟨o, es, n, h1, h2⟩ := sd
    exact ⟨o, es, n, I.bk _ _ h1, h2⟩
  cases hd with
  | non =>
    obtain rfl : u = Value.none := r1
    simp only [PyData.shown] at q
    exact PySem.P.repr_of_none ⟨.str _, H, I.tok _, ⟨_, rfl⟩, q⟩
  | bl b =>
    obtain rfl : u = Value.bool b := r1
    simp only [PyData.shown] at q
    exact PySem.P.repr_of_bool ⟨.str _, H, I.tok _, ⟨_, rfl⟩, q⟩
  | int i =>
    obtain ⟨t, rfl⟩ := r1
    simp only [PyData.shown] at q
    simp only [PyData.showable, decide_eq_true_eq] at hs
    exact PySem.P.repr_of_int hs ⟨.str _, H, I.tok _, ⟨_, rfl⟩, q⟩
  | str y =>
    obtain ⟨t, rfl⟩ := r1
    simp only [PyData.shown] at q hz
    exact PySem.P.repr_of_str ⟨.str _, H, I.tok _, ⟨_, rfl⟩, q⟩ hz
  | @lst a xs ds e hq =>
    obtain ⟨as, rd, hn⟩ := Dq.reads I.hok sd1 u (.lst e hq) r1
    obtain rfl : u = Value.ref a := r1
    exact repr_of_reads' rd hs (fun _ => hn) hg (by omega) (fun _ _ e => e) (fun h' u tk k => ⟨.str _, H, I.kept (t' := tk) k, ⟨_, rfl⟩, q⟩) hz
  | @tup a xs ds e hq =>
    obtain ⟨as, rd, hn⟩ := Dq.reads I.hok sd1 u (.tup e hq) r1
    obtain rfl : u = Value.ref a := r1
    exact repr_of_reads' rd hs (fun _ => hn) hg (by omega) (fun _ _ e => e) (fun h' u tk k => ⟨.str _, H, I.kept (t' := tk) k, ⟨_, rfl⟩, q⟩) hz
  | @dk a kvs ds e hq =>
    obtain ⟨as, rd, hn⟩ := Dq.reads I.hok sd1 u (.dk e hq) r1
    obtain rfl : u = Value.ref a := r1
    exact repr_of_reads' rd hs (fun _ => hn) hg (by omega) (fun _ _ e => e) (fun h' u tk k => ⟨.str _, H, I.kept (t' := tk) k, ⟨_, rfl⟩, q⟩) hz
end
/-! ### promises where no repr runs around -/
structure FnOkG (P : Program) (w : World) (K : PySem.W.Frag) (mg : Str → Option Value) (base : Heap) (k : Nat) (f : Addr) (fd : FuncData) (ps : List Str) (sp : Sp) : Prop where
  len : ∀ vs H Q E, sp vs H Q E → vs.length = ps.length
  run : ∀ (A : Around) (outer : List Env) (s : Shared) (H : Hp) (args : Args) (us : List Value) (vs : List V) (Q : VK) (E : XK), A.guards = some [] → Room k A → Env0 P w K mg base A outer s H → BindsTo s fd args (ps.zip us) → Vals vs us → sp vs H Q E →
    codeAny (model P w) A (.call (.ref f) args) (CR CX0 outer P w H s Q E) s
theorem guards_deeper {A : Around} {env : Env} : (A.deeper env).guards = A.guards := by
  obtain ⟨hd, d, fr, gs, u⟩ := A
  cases gs <;> rfl
section
variable {P : Program} {w : World} {K : PySem.W.Frag} {mg : Str → Option Value} {base : Heap}
/-- THE RULE for a def (its body may ask for repr) -/
theorem okG {x qual : Str} {params : Arguments} {body : List Stmt} {scope : Scope} {dvs : List V} {kws : List (Str × V)} {f : Addr} {fd : FuncData} {N ps : List Str} {k : Nat} {sp : Sp} (F : FunD K x qual params body scope dvs kws f fd) (S : FnScope N ps scope) (len : ∀ vs H Q E, sp vs H Q E → vs.length = ps.length)
    (hbody : ∀ (cdv : Value) (A : Around) (outer : List Env) (s : Shared) (H : Hp) (vs : List V) (Q : VK) (E : XK), A.guards = some [] → Room k (A.deeper (envOfC qual scope s.heap.objs.size f cdv)) → sp vs H Q E →
      ∃ t, PSs (cxOf CX0 P w K mg base N qual scope f cdv A outer s H E) body t ∧ t { nx := fun _ H' => Q .non H', rt := Q } (start N vs) H) : FnOkG P w K mg base (k + 1) f fd ps sp := by
  refine ⟨len, fun A outer s H args us vs Q E hg hr e0 hb r hsp => ?_⟩
  obtain ⟨oc, od, dV, kV, doc, pm, an, cdv, ct, osl, rfl, lk, hcd, _, _⟩ := F.ex
  have hl := len _ _ _ _ hsp
  have KX : K.In s.heap := e0.mod.kin.keeps fun b o e => (e0.bs b o e).1
  have lim : s.heap.NoLimit := e0.mod.nolimit.keeps fun b o e => (e0.bs b o e).1
  have hkind : ∀ y ∈ ps.zip us, scope.names.lookup y.1 = some .local ∨ (scope.names.lookup y.1 = some .cell ∧ ((cellsFrom (s.heap.objs.size + 1) scope.names []).lookup y.1).isSome = true) := fun ⟨n, v⟩ hy => by
    rcases S.par n (List.of_mem_zip hy).1 with q | q
    · exact .inl q
    · exact .inr ⟨q, PySem.W.cellsFrom_some _ _ _ (.inl q)⟩
  refine codeAny_call_function hr.depth (KX _ _ lk) rfl S.co S.gen rfl (PySem.W.codeRec_of KX hcd) (hb _ _ _ _ ?_)
  refine wpAny_newFunctionEnv_cells S.kind hkind fun env he s1 x => ?_
  subst he
  refine ⟨lim.keeps x.toInCall.keep, codeAny_func ?_⟩
  obtain ⟨t, ht, hq⟩ := hbody cdv A outer s H vs Q E hg (hr.deeper _) hsp
  have I : Inv (cxOf CX0 P w K mg base N qual scope f cdv A outer s H E) [] (start N vs) H s1 := inv_start S hr.hd e0 hl r x
  refine wpAny_mono (ht.run [] s1 (start N vs) H _ I hq) (fun fl s' hs => ?_) fun e s' hs => hs
  have fin : ∀ {σ' : L2.St} {H' : Hp} {v : V} {u : Value}, Inv (cxOf CX0 P w K mg base N qual scope f cdv A outer s H E) [] σ' H' s' → RelV v u → Q v H' → CE outer P w H s Q u s' :=
    fun {σ' H' v u} J rv q => ⟨v, H', J.os, J.bare, J.base, J.hok, rv, q⟩
  cases fl with
  | ret u =>
    obtain ⟨v, σ', H', J, rv, q⟩ := hs
    exact fin J rv q
  | next =>
    obtain ⟨σ', H', J, q⟩ := hs
    exact fin (v := V.non) (u := Value.none) J rfl q
  | brk =>
    obtain ⟨_, _, _, q⟩ := hs
    exact False.elim q
  | cont =>
    obtain ⟨_, _, _, q⟩ := hs
    exact False.elim q
end
section
variable {X : Cx} {k : Nat} {f : Addr} {fd : FuncData} {ps : List Str} {sp : Sp} {x : Str} {p pos : Pos} {e : Expr} {es : List Expr} {t : TA}
theorem pe_callG (F : FnOkG X.prog X.w X.K X.mg X.base k f fd ps sp) (hG : X.A.guards = some []) (hr : Room k X.A) (hg : Gl X x) (hm : X.mg x = some (.ref f)) (hk : PySem.W.keepIn X.K (.ref f) = true) (hb : Binds X.K fd ps [])
    (ha : PA X (e :: es) t) (hdb : (x == ("__debug__" : Str)) = false := by decide) (he : starEach (e :: es) X.env = (false, eval e X.env) :: starEach es X.env := by rfl) (hpl : (backTo pos (starEach es X.env)).any (·.1) = false := by rfl) :
    PE X (.Call (.Name x p) (e :: es) [] pos) (tCall sp [] E0 t) := by
  refine ⟨fun pins s σ H Q I h => ?_⟩
  refine wpAny_Call_Name_kw (ld_glob I hg hm ?_ hdb)
  refine PySem.W.callWith_K (h₀ := X.base) I.ok.mod.kin hk (thn (ha.run pos pins s σ H _ I h) fun us s1 ⟨vs, H1, I1, r, q⟩ => ⟨I1.kIn, ?_⟩) he hpl
  have q0 : sp (vs ++ []) H1 Q E0 := q
  rw [List.append_nil] at q0
  have hl : us.length = ps.length := by rw [← r.length]; exact F.len _ _ _ _ q0
  have hbt := hb s1 us I1.kIn (by rw [List.append_nil]; exact hl)
  rw [List.append_nil] at hbt
  refine wpAny_call (codeAny_mono (F.run X.A X.stack s1 H1 ⟨us, []⟩ us vs Q E0 hG hr I1.env0 hbt r q0) fun r s' hq => ?_)
  cases r with
  | error e => exact False.elim hq
  | ok fl =>
    cases fl with
    | ret u => exact I1.after hq
    | next => exact False.elim hq
    | brk => exact False.elim hq
    | cont => exact False.elim hq
end
section
variable {P : Program} {w : World} {K : PySem.W.Frag} {mg mb : Str → Option Value} {k : Nat} {fa a : Addr} {fd : FuncData} {x : Str} {sp : Sp} {s₁ : Shared} {vs : List Value} {ns : List Int}
/-- the law called, from an abstract heap that tracks nothing but the script -/
theorem law_coreG (KX : K.In s₁.heap) (hns : s₁.heap.Ns mainGlobals mg) (hb : s₁.heap.Ns builtinsNs mb) (hbb : ∀ x : Str, x ≠ "__name__" → mb x = bootBuiltins x) (hlim : s₁.heap.NoLimit) (hg : s₁.gens = #[])
    (ha : s₁.heap.get? a = some { cls := .type "list", data := .seq vs.toArray }) (hr : Room k callerA)
    (F : ∀ base : Heap, K.In base → base.Ns mainGlobals mg → FnOkG P w K mg base k fa fd [x] sp) (hbind : ∀ (s : Shared) (u : Value), BindsTo s fd ⟨[u], []⟩ [(x, u)])
    (hsp : ∀ H : Hp, Only H → SqL K H a (ns.map V.int) → sp [.ref a] H (fun v _ => v = .bl true) fun _ _ _ => False)
    (H : Hp) (hO : Only H) (hS : SqL K H a (ns.map V.int)) (hok : HOk P w H s₁.heap) (hA : ∀ b, H b ≠ none → b = a) (hK : H a ≠ none → K.lookup a = none) :
    codeAny (model P w) callerA (.call (.ref fa) ⟨[.ref a], []⟩) (fun r s' => r = .ok (.ret (.bool true)) ∧ OldK s₁.heap s'.heap ∧ s'.os = s₁.os ∧ AllBare s'.gens) s₁ := by
  have only : ∀ {b : Addr}, (H b = none → False) → b = a := fun {b} z => hA b fun q => z q
  have free : ∀ {b : Addr} {o : Obj}, s₁.heap.get? b = some o → (∀ vs n, o.data ≠ .seq vs n) → H b = none := fun {b o} e d => Classical.byContradiction fun z => by
    have eb := only (b := b) z
    rw [eb, ha] at e
    cases e
    exact d _ _ rfl
  have names : ∀ {b : Addr} {m : Str → Option Value}, s₁.heap.Ns b m → (hidT s₁.heap H).Ns b m := fun {b m} ⟨o, es, ep, e, d, r⟩ => ⟨o, es, ep, hidT_get e (free e fun vs n q => by rw [d] at q; cases q), d, r⟩
  have kin : K.In (hidT s₁.heap H) := fun b o e => hidT_get (KX b o e) (Classical.byContradiction fun z => by
    have eb := only (b := b) z
    rw [eb] at e z
    rw [hK z] at e
    cases e)
  have M : Mod K mg (hidT s₁.heap H) := ⟨kin, names hns, ⟨mb, names hb, hbb⟩, let ⟨mc, h1, h2⟩ := hlim; ⟨mc, names h1, h2⟩⟩
  have e0 : Env0 P w K mg (hidT s₁.heap H) callerA [] s₁ H := ⟨rfl, M, fun b o e => of_hidT e, Nat.le_of_eq (hidT_size _ _), trivial, fun b hb => absurd (show b ∈ ([] : List Addr) from hb) (by simp), hok, .of_eq hg⟩
  refine codeAny_mono ((F _ kin (names hns)).run callerA [] s₁ H ⟨[.ref a], []⟩ [.ref a] [.ref a] _ _ rfl hr e0 (hbind s₁ (.ref a)) (.cons rfl .nil) (hsp H hO hS)) fun r s' h => ?_
  match r, h with
  | .error e, h => exact False.elim h
  | .ok (.ret u), h =>
    obtain ⟨v, H', os, bare, un, hok', r', q⟩ := h
    obtain rfl : v = .bl true := q
    obtain rfl : u = Value.bool true := r'
    refine ⟨rfl, OldK.of_keep fun b o e => ?_, os, bare⟩
    rcases hO b with z | ⟨ob, xs, z⟩
    · exact un.keep b o e z (fun z => absurd (show b ∈ ([] : List Addr) from z) (by simp)) (by simp)
    · obtain ⟨e1, _⟩ := hok b _ z
      obtain ⟨e2, _⟩ := hok' b _ (un.frzs b ob _ z)
      rw [e] at e1
      cases e1
      exact e2
theorem law_callG (KX : K.In s₁.heap) (hns : s₁.heap.Ns mainGlobals mg) (hb : s₁.heap.Ns builtinsNs mb) (hbb : ∀ x : Str, x ≠ "__name__" → mb x = bootBuiltins x) (hlim : s₁.heap.NoLimit) (hg : s₁.gens = #[])
    (ha : s₁.heap.get? a = some { cls := .type "list", data := .seq vs.toArray }) (hi : IntsAre vs ns) (hl : ns.length ≤ sizeLine) (hr : Room k callerA)
    (F : ∀ base : Heap, K.In base → base.Ns mainGlobals mg → FnOkG P w K mg base k fa fd [x] sp) (hbind : ∀ (s : Shared) (u : Value), BindsTo s fd ⟨[u], []⟩ [(x, u)])
    (hsp : ∀ H : Hp, Only H → SqL K H a (ns.map V.int) → sp [.ref a] H (fun v _ => v = .bl true) fun _ _ _ => False) :
    codeAny (model P w) callerA (.call (.ref fa) ⟨[.ref a], []⟩) (fun r s' => r = .ok (.ret (.bool true)) ∧ OldK s₁.heap s'.heap ∧ s'.os = s₁.os ∧ AllBare s'.gens) s₁ := by
  have rv := vals_ints hi
  cases hk : K.lookup a with
  | some o =>
    have e := KX a o hk
    rw [ha] at e
    cases e
    exact law_coreG KX hns hb hbb hlim hg ha hr F hbind hsp (fun _ => none) (fun _ => .inl rfl) (.inr ⟨_, vs.toArray, _, hk, rfl, rfl, rfl, by rw [List.size_toArray, hi.length]; exact hl, by simpa using rv⟩) (fun b u z => nomatch (show (none : Option HO) = some u from z)) (fun b z => absurd rfl z) fun z => absurd rfl z
  | none =>
    refine law_coreG KX hns hb hbb hlim hg ha hr F hbind hsp (fun b => if b = a then some (.frz { cls := .type "list", data := .seq vs.toArray } (.lst (ns.map V.int))) else none) (fun b => ?_) (.inl (.inr ⟨{ cls := .type "list", data := .seq vs.toArray }, if_pos rfl⟩)) (fun b u z => ?_) (fun b z => ?_) fun _ => hk
    · by_cases hb : b = a
      · exact .inr ⟨_, _, if_pos hb⟩
      · exact .inl (if_neg hb)
    · by_cases hb : b = a
      · have z' := (if_pos hb).symm.trans z
        cases z'
        rw [hb]
        exact ⟨ha, by rw [List.length_map]; exact hl, vs, _, rv, ha⟩
      · have z' := (if_neg hb).symm.trans z
        cases z'
    · by_cases hb : b = a
      · exact hb
      · exact absurd (if_neg hb) z
end
/-- the end of a law whose promise is such -/
theorem walk_ofG {l : PySem.W.OpenLaw} {n k : Nat} {q : Program} {loose : List Str} {XP : (Str → Option Value) → Heap → Prop} {YP : World → Heap → Prop} {d : DefRec} {x : Str}
    (hn : l.most = some n) (hn2 : n ≤ sizeLine) (hdf : d.params.defaults = []) (hr : Room k callerA)
    (F : ∀ (w : World) (mg : Str → Option Value) (fa : Addr) (h : Heap), YP w h → h.Ns mainGlobals mg → mg d.name = some (.ref fa) →
      ∃ (K : PySem.W.Frag) (fd : FuncData) (sp : Sp), K.In h ∧ (∀ (s : Shared) (u : Value), BindsTo s fd ⟨[u], []⟩ [(x, u)]) ∧
        (∀ (H : Hp) (a : Addr) (ns : List Int), ns.length ≤ n → Only H → SqL K H a (ns.map V.int) → sp [.ref a] H (fun v _ => v = .bl true) fun _ _ _ => False) ∧
        ∀ base : Heap, K.In base → base.Ns mainGlobals mg → FnOkG l.prog w K mg base k fa fd [x] sp) :
    PySem.W.WalkO q loose XP YP l.row.toRowW d [] (fun f vs => PySem.call f vs) := by
  refine Att.attach_call hn hdf fun w s₀ s₁ mg mb fa o pm cd doc a vs ns G Y ho hd hcd hmg hobj hints hlen hg => ?_
  obtain ⟨K, fd, sp, KX, hb, hsp, hF⟩ := F w mg fa _ Y G.T.g hmg
  exact law_callG KX G.T.g G.T.b G.T.builtins G.T.nolimit hg hobj hints (Nat.le_trans hlen hn2) hr hF hb (fun H hO hS => hsp H a ns hlen hO hS)
end EX2
set_option Elab.async false
set_option linter.all false
set_option maxRecDepth 100000
set_option maxHeartbeats 4000000
namespace EX2
open PySem PySem.Spec PyProof.Rows L2
/-! ### the head's facts -/
abbrev FnZ : Type := Option (Str × Str × Arguments × FuncBody × Scope × Addr × List Str × Addr)
def ini (K : PySem.W.Frag) (C : Str) : Addr := He.ma K (He.ga K C) "__init__"
def suW (K : PySem.W.Frag) (C : Str) : FnZ := match K.lookup (ini K C) with
  | some ⟨_, _, .func fd, _⟩ => some (fd.name, fd.qualname, fd.params, fd.body, fd.scope, fd.globals, fd.closure.map (·.1), fd.builtins)
  | _ => none
/-- an __init__ that says super().__init__: its class's name, its text, its fields -/
structure SuD where
  cls : Str
  qual : Str
  st : Stmt
  flds : List Str
def SuD.val (d : SuD) : FnZ := some ("__init__", d.qual, defArgs d.st, .stmts (defBody d.st), defScope d.st, mainGlobals, ["__class__"], builtinsNs)
def noneB : Value → Bool
  | .none => true
  | _ => false
theorem noneB_ok {v : Value} (h : noneB v = true) : v = .none := by
  cases v with
  | none => rfl
  | _ => cases h
def cellB (K : PySem.W.Frag) (D : Addr) (cl : List (Str × Addr)) : Bool := match cl with
  | [(_, cc)] => (match K.lookup cc with
    | some ⟨_, _, .cell (some (.ref D')), _⟩ => decide (D' = D)
    | _ => false)
  | _ => false
def fileB (K : PySem.W.Frag) (file : Str) (cd : Value) : Bool := match cd with
  | .ref c => (match K.lookup c with
    | some ⟨_, _, .fields vs, _⟩ => (match vs[2]? with
      | some (Value.str f _) => file == f
      | _ => false)
    | _ => false)
  | _ => false
def SuD.ok (file : Str) (K : PySem.W.Frag) (d : SuD) : Bool := match K.lookup (ini K d.cls) with
  | some ⟨_, _, .func fd, _⟩ => PySem.W.codeIn K fd.code d.qual && (noneB fd.defaults && (noneB fd.kwdefaults && (fd.annotations.isNone && (cellB K (He.ga K d.cls) fd.closure && fileB K file fd.code))))
  | _ => false
def clsB (K : PySem.W.Frag) (C B f : Addr) (flds : List Str) : Bool :=
  PySem.W.excInitIn K C bmE "Exception.__new__" && (PySem.W.excOver K C bmE && (PySem.W.hasDictIn K C && (He.eqO (PySem.W.findIn K (.ref C) "__setattr__") (some (some (.builtin "object.__setattr__"))) &&
  (decide (PySem.W.typeIn K (.ref C) = some (.type "type")) && (PySem.W.keepIn K (.ref C) &&
  (He.eqO (PySem.W.findIn K (.ref C) "__getattribute__") (some (some (.builtin "BaseException.__getattribute__"))) && (He.eqO (PySem.W.findIn K (.ref C) "__getattr__") (some none) &&
  (He.eqO (PySem.W.findIn K (.ref C) "__class__") (some (some (.builtin "object.__class__"))) && (He.eqO (PySem.W.findIn K (.ref C) "__init__") (some (some (.ref f))) && (decide (PySem.W.typeIn K (.ref f) = some (.type "function")) &&
  (He.eqO (PySem.W.ks_superIn K C C "__init__") (some (some (.builtin "Exception.__init__"))) && ((PySem.W.clsIn K C).any (fun cd => decide (cd.mro = .ref C :: .ref B :: bmE)) && flds.all fun x => He.eqO (PySem.W.findIn K (.ref C) x) (some none)))))))))))))
/-- the same of all classes: two facts of built-in things -/
def bltB (K : PySem.W.Frag) : Bool := He.eqO (PySem.W.specialIn K (.builtin "object.__class__") "__get__") (some (some (.builtin "getset_descriptor.__get__"))) && (decide (PySem.W.takesIn K (.builtin "object.__class__") = some true) &&
  (He.eqO (PySem.W.nsIn K cStatics "thirdparty.any") (some none) && He.dictB K sysModules))
def sudB (file : Str) (K : PySem.W.Frag) (B : Str) (xs : List SuD) : Bool := bltB K && (xs.all fun d => clsB K (He.ga K d.cls) (He.ga K B) (ini K d.cls) d.flds && d.ok file K)
/-- what is told of a class -/
structure ClsG (K : PySem.W.Frag) (C B f : Addr) (flds : List Str) : Prop where
  t : ExK K C
  x : XfC K C
  c : ExcC K C
  at_ : PySem.W.findIn K (.ref C) "__init__" = some (some (.ref f))
  ty : PySem.W.typeIn K (.ref f) = some (.type "function")
  su : PySem.W.ks_superIn K C C "__init__" = some (some (.builtin "Exception.__init__"))
  mro : ∃ cd, PySem.W.clsIn K C = some cd ∧ cd.mro = .ref C :: .ref B :: bmE
  no : ∀ x ∈ flds, PySem.W.findIn K (.ref C) x = some none
theorem mro_of {K : PySem.W.Frag} {C B : Addr} (h : ∃ cd, PySem.W.clsIn K C = some cd ∧ cd.mro = .ref C :: .ref B :: bmE) (b : Value) : PySem.W.mroIn K C b = some ((Value.ref C :: .ref B :: bmE).contains b) := by
  obtain ⟨cd, h1, h2⟩ := h
  unfold PySem.W.mroIn
  rw [h1, Option.bind_some, h2, if_neg (by simp)]
theorem has_ty {C B : Addr} (T : String) (h : bmE.contains (.type T) = true) : (Value.ref C :: .ref B :: bmE).contains (.type T) = true := by
  rw [List.contains_cons, List.contains_cons, h, Bool.or_true, Bool.or_true]
theorem clsB_ok {K : PySem.W.Frag} {C B f : Addr} {flds : List Str} (hb : bltB K = true) (h : clsB K C B f flds = true) : ClsG K C B f flds := by
  unfold clsB at h
  simp only [Bool.and_eq_true] at h
  obtain ⟨h1, h2, h3, h4, h5, h6, h7, h8, h9, h10, h11, h12, h13, h14⟩ := h
  unfold bltB at hb
  simp only [Bool.and_eq_true] at hb
  obtain ⟨b1, b2, b3, b4⟩ := hb
  have hm : ∃ cd, PySem.W.clsIn K C = some cd ∧ cd.mro = .ref C :: .ref B :: bmE := by
    obtain ⟨cd, e1, e2⟩ := PySem.W.any_some h13
    exact ⟨cd, e1, of_decide_eq_true e2⟩
  have s1 : PySem.W.subIn K (.ref C) (.type "BaseException") = some true := (mro_of hm _).trans (congrArg some (has_ty _ (by decide +kernel)))
  have s2 : PySem.W.subIn K (.ref C) (.type "Exception") = some true := (mro_of hm _).trans (congrArg some (has_ty _ (by decide +kernel)))
  have s3 : PySem.W.mroIn K C (.type "object") = some true := (mro_of hm _).trans (congrArg some (has_ty _ (by decide +kernel)))
  refine ⟨⟨h1, h2, h3, He.eqO_ok h4, s1, s2, of_decide_eq_true h5, h6⟩, ⟨He.eqO_ok h7, He.eqO_ok h8, s1, h3⟩, ⟨He.eqO_ok h7, He.eqO_ok h8, s1, h3, He.eqO_ok h9, He.eqO_ok b1, of_decide_eq_true b2, s3⟩, He.eqO_ok h10, of_decide_eq_true h11, He.eqO_ok h12, hm, fun x hx => He.eqO_ok (List.all_eq_true.mp h14 x hx)⟩
theorem ClsG.self {K : PySem.W.Frag} {C B f : Addr} {flds : List Str} (g : ClsG K C B f flds) : PySem.W.mroIn K C (.ref C) = some true := (mro_of g.mro _).trans (by simp)
/-- isinstance: another such class, the base, a built-in type that is not above -/
theorem ClsG.kit {K : PySem.W.Frag} {C B f D f' : Addr} {flds flds' : List Str} (g : ClsG K C B f flds) (g' : ClsG K D B f' flds') (h : D ≠ B) : PySem.W.kitOne K (.ref C) (.ref D) = some (decide (C = D)) := by
  unfold PySem.W.kitOne
  by_cases e : C = D
  · subst e
    rw [if_pos (by simp), decide_eq_true rfl]
  · have e' : (Value.ref C == Value.ref D) = false := by simp [e]
    rw [e', if_neg (by simp), decide_eq_false e]
    obtain ⟨cd, h1, h2⟩ := g'.mro
    show (if ((PySem.W.clsIn K D).isSome && PySem.W.typeIn K (.ref D) == some (.type "type")) = true then PySem.W.subIn K (.ref C) (.ref D) else none) = some false
    rw [h1, g'.t.tyC, if_pos (by rfl)]
    refine (mro_of g.mro _).trans ?_
    simp [Ne.symm e, h]
theorem ClsG.kitB {K : PySem.W.Frag} {C B f : Addr} {flds : List Str} (g : ClsG K C B f flds) (hB : ((PySem.W.clsIn K B).isSome && PySem.W.typeIn K (.ref B) == some (.type "type")) = true) : PySem.W.kitOne K (.ref C) (.ref B) = some true := by
  unfold PySem.W.kitOne
  by_cases e : C = B
  · subst e
    rw [if_pos (by simp)]
  · have e' : (Value.ref C == Value.ref B) = false := by simp [e]
    rw [e', if_neg (by simp)]
    show (if ((PySem.W.clsIn K B).isSome && PySem.W.typeIn K (.ref B) == some (.type "type")) = true then PySem.W.subIn K (.ref C) (.ref B) else none) = some true
    rw [if_pos hB]
    exact (mro_of g.mro _).trans (by simp)
theorem ClsG.kitT {K : PySem.W.Frag} {C B f : Addr} {flds : List Str} (g : ClsG K C B f flds) {T : String} {b : Bool} (hm : PySem.W.kitMeta T = true) (h : bmE.contains (.type T) = b) : PySem.W.kitOne K (.ref C) (.type T) = some b := by
  unfold PySem.W.kitOne
  have e' : (Value.ref C == Value.type T) = false := rfl
  rw [e', if_neg (by simp)]
  show (if PySem.W.kitMeta T = true then PySem.W.subIn K (.ref C) (.type T) else none) = some b
  rw [if_pos hm]
  refine (mro_of g.mro _).trans ?_
  rw [List.contains_cons, List.contains_cons, h]
  rfl
theorem suF_of {P : Program} {K : PySem.W.Frag} {d : SuD} (g : ClsG K (He.ga K d.cls) B (ini K d.cls) d.flds) (e : suW K d.cls = d.val) (c : d.ok P.main.file K = true) : ∃ fd, SuF P K d.qual d.st (He.ga K d.cls) (ini K d.cls) fd := by
  unfold suW at e
  unfold SuD.ok at c
  cases q : K.lookup (ini K d.cls) with
  | none =>
    rw [q] at c
    cases c
  | some o =>
    obtain ⟨oc, od, dt, osl⟩ := o
    rw [q] at c e
    cases dt with
    | func fd =>
      obtain ⟨n1, n2, n3, n4, n5, n6, n7, n8, n9, n10, n11, n12, n13, n14, n15⟩ := fd
      have e2 : (some (n1, n2, n3, n4, n5, n6, n7.map (·.1), n15) : FnZ) = some ((("__init__" : Str), d.qual, defArgs d.st, FuncBody.stmts (defBody d.st), defScope d.st, mainGlobals, [("__class__" : Str)], builtinsNs) : Str × Str × Arguments × FuncBody × Scope × Addr × List Str × Addr) := e
      simp only [Option.some.injEq, Prod.mk.injEq] at e2
      obtain ⟨h1, h2, h3, h4, h5, h6, h7, h8⟩ := e2
      subst h1 h2 h3 h4 h5 h6 h8
      have c2 : (PySem.W.codeIn K n13 d.qual && (noneB n8 && (noneB n9 && (n12.isNone && (cellB K (He.ga K d.cls) n7 && fileB K P.main.file n13))))) = true := c
      simp only [Bool.and_eq_true] at c2
      obtain ⟨k1, k2, k3, k4, k5, k6⟩ := c2
      obtain rfl := noneB_ok k2
      obtain rfl := noneB_ok k3
      obtain rfl : n12 = none := by
        cases n12 with
        | none => rfl
        | some a => cases k4
      obtain ⟨cd, rfl⟩ := He.codeIn_ref k1
      match n7, h7, k5 with
      | [(y, cc)], h7, k5 =>
        obtain rfl : y = ("__class__" : Str) := List.head_eq_of_cons_eq h7
        unfold cellB at k5
        dsimp only at k5
        unfold fileB at k6
        dsimp only at k6
        split at k5
        · rename_i kc kd D' ks lcc
          split at k6
          · rename_i fc fdd vs fs lc
            split at k6
            · rename_i ff ft hv
              have hD : D' = He.ga K d.cls := of_decide_eq_true k5
              subst hD
              exact ⟨_, ⟨oc, od, osl, n10, n11, n14, cc, cd, _, _, vs, ff, ft, rfl, q, k1, lcc, rfl, lc, rfl, hv, k6⟩, g.at_, g.ty⟩
            · cases k6
          · cases k6
        · cases k5
    | _ => cases c
/-! ### the Hook -/
abbrev AlY : Type := (He.AlT × Bool) × List FnZ
def frY (g : Addr → Option Obj) (n : Nat) : PySem.W.Frag := He.frT g (sysModules :: cStatics :: He.asD g n)
def obsY (n : Nat) (fa : List He.Fa) (fn : List He.DefD) (xs : List SuD) (ex : PySem.W.Frag → Bool) (g : Addr → Option Obj) : AlY := ((He.obsT fa fn [] (frY g n), ex (frY g n)), xs.map fun d => suW (frY g n) d.cls)
def valY (fn : List He.DefD) (xs : List SuD) (w : World) : AlY := ((He.valT fn [] w, true), xs.map SuD.val)
structure SaysY (fa : List He.Fa) (fn : List He.DefD) (xs : List SuD) (ex : PySem.W.Frag → Bool) (w : World) (K : PySem.W.Frag) : Prop where
  t : He.SaysT fa fn [] w K
  more : ex K = true
  sup : xs.map (fun d => suW K d.cls) = xs.map SuD.val
def hookY (n : Nat) (fa : List He.Fa) (fn : List He.DefD) (xs : List SuD) (ex : PySem.W.Frag → Bool) : PySem.W.Hook where
  α := AlY
  obs := fun s => obsY n fa fn xs ex s.heap.get?
  val := fun w => valY fn xs w
  says := fun w h => ∃ K : PySem.W.Frag, K.In h ∧ SaysY fa fn xs ex w K
  of := fun _ _ e => ⟨_, He.frT_in, congrArg (fun z : AlY => z.1.1) e, congrArg (fun z : AlY => z.1.2) e, congrArg (fun z : AlY => z.2) e⟩
  keeps := fun _ _ _ ⟨K, hK, c⟩ k => ⟨K, PySem.W.Frag.In.keeps hK k, c⟩
theorem obsY_eq {n : Nat} {fa : List He.Fa} {fn : List He.DefD} {xs : List SuD} {ex : PySem.W.Frag → Bool} {g : Addr → Option Obj} {s : Shared} (h : ∀ a, g a = s.heap.get? a) : obsY n fa fn xs ex g = (hookY n fa fn xs ex).obs s := by
  have e : g = s.heap.get? := funext h
  rw [e] <;> rfl
/-- all that is told of the i-th such class -/
theorem sud_at {P : Program} {K : PySem.W.Frag} {B : Str} {xs : List SuD} (hb : sudB P.main.file K B xs = true) (hs : xs.map (fun d => suW K d.cls) = xs.map SuD.val) (i : Nat) {d : SuD} (h : xs[i]? = some d := by rfl) :
    ClsG K (He.ga K d.cls) (He.ga K B) (ini K d.cls) d.flds ∧ ∃ fd, SuF P K d.qual d.st (He.ga K d.cls) (ini K d.cls) fd := by
  unfold sudB at hb
  rw [Bool.and_eq_true] at hb
  have h1 := List.all_eq_true.mp hb.2 d (List.mem_of_getElem? h)
  rw [Bool.and_eq_true] at h1
  have g := clsB_ok hb.1 h1.1
  refine ⟨g, suF_of g ?_ h1.2⟩
  have e2 : (xs.map fun d => suW K d.cls)[i]? = (xs.map SuD.val)[i]? := by rw [hs]
  rw [List.getElem?_map, List.getElem?_map, h] at e2
  exact Option.some.inj e2
theorem sysD_of {K : PySem.W.Frag} {h : Heap} (hb : bltB K = true) (X : K.In h) : SysD h := by
  unfold bltB at hb
  simp only [Bool.and_eq_true] at hb
  obtain ⟨es, n, sl, e⟩ := He.dictB_ok hb.2.2.2
  exact ⟨_, es, n, X _ _ e, rfl⟩
end EX2
set_option Elab.async false
set_option linter.all false
set_option maxRecDepth 100000
set_option maxHeartbeats 4000000
/-! the head's facts, with tables and defs at any path (property getters) -/
namespace EX2
open PySem PySem.Spec PyProof.Rows L2
/-- a def without defaults and cells, found by a path -/
structure PD where
  at_ : PySem.W.Frag → Addr
  name : Str
  qual : Str
  st : Stmt
def pdW (K : PySem.W.Frag) (d : PD) : He.FnW := match K.lookup (d.at_ K) with
  | some ⟨_, _, .func fd, _⟩ => some (fd.name, fd.qualname, fd.params, fd.body, fd.scope, fd.globals, fd.closure, fd.builtins)
  | _ => none
def PD.val (d : PD) : He.FnW := some (d.name, d.qual, defArgs d.st, .stmts (defBody d.st), defScope d.st, mainGlobals, [], builtinsNs)
def PD.ok (K : PySem.W.Frag) (d : PD) : Bool := PySem.W.keepIn K (.ref (d.at_ K)) && (match K.lookup (d.at_ K) with
  | some ⟨_, _, .func fd, _⟩ => PySem.W.codeIn K fd.code d.qual && (noneB fd.defaults && noneB fd.kwdefaults)
  | _ => false)
theorem PD.funD {K : PySem.W.Frag} {d : PD} (e : pdW K d = d.val) (c : d.ok K = true) : ∃ fd, FunD K d.name d.qual (defArgs d.st) (defBody d.st) (defScope d.st) [] [] (d.at_ K) fd := by
  unfold PD.ok at c
  rw [Bool.and_eq_true] at c
  obtain ⟨kp, c2⟩ := c
  unfold pdW at e
  cases q : K.lookup (d.at_ K) with
  | none =>
    rw [q] at c2
    cases c2
  | some o =>
    obtain ⟨oc, od, dt, osl⟩ := o
    rw [q] at c2 e
    cases dt with
    | func fd =>
      obtain ⟨n1, n2, n3, n4, n5, n6, n7, n8, n9, n10, n11, n12, n13, n14, n15⟩ := fd
      have e2 : (some (n1, n2, n3, n4, n5, n6, n7, n15) : He.FnW) = some (d.name, d.qual, defArgs d.st, .stmts (defBody d.st), defScope d.st, mainGlobals, [], builtinsNs) := e
      simp only [Option.some.injEq, Prod.mk.injEq] at e2
      obtain ⟨h1, h2, h3, h4, h5, h6, h7, h8⟩ := e2
      subst h1 h2 h3 h4 h5 h6 h7 h8
      have c3 : (PySem.W.codeIn K n13 d.qual && (noneB n8 && noneB n9)) = true := c2
      simp only [Bool.and_eq_true] at c3
      obtain ⟨k1, k2, k3⟩ := c3
      obtain rfl := noneB_ok k2
      exact ⟨_, ⟨oc, od, .none, n9, n10, n11, n12, n13, n14, osl, rfl, q, k1, .inl ⟨rfl, rfl⟩, .inl rfl⟩, kp⟩
    | _ => cases c2
/-- a property's object, its getter -/
def prA (K : PySem.W.Frag) (C f : Str) : Addr := He.ma K (He.ga K C) f
def prG (C f : Str) (K : PySem.W.Frag) : Addr := match K.lookup (prA K C f) with
  | some ⟨_, _, .fields vs, _⟩ => (match vs[0]? with
    | some (Value.ref g) => g
    | _ => 0)
  | _ => 0
def propB (K : PySem.W.Frag) (C f : Str) : Bool := He.eqO (PySem.W.findIn K (.ref (He.ga K C)) f) (some (some (.ref (prA K C f)))) && (He.eqO (PySem.W.specialIn K (.ref (prA K C f)) "__get__") (some (some (.builtin "property.__get__"))) &&
  (decide (PySem.W.takesIn K (.ref (prA K C f)) = some true) && (match PySem.W.recIn K (prA K C f) "property" with
    | some (.ref g :: _) => decide (g = prG C f K)
    | _ => false)))
theorem propB_ok {K : PySem.W.Frag} {C f : Str} (h : propB K C f = true) : PropOf K (He.ga K C) f (prA K C f) (prG C f K) := by
  unfold propB at h
  simp only [Bool.and_eq_true, decide_eq_true_eq] at h
  obtain ⟨h1, h2, h3, h4⟩ := h
  refine ⟨He.eqO_ok h1, He.eqO_ok h2, h3, ?_⟩
  split at h4
  · rename_i g rest e
    have eg : g = prG C f K := of_decide_eq_true h4
    exact ⟨rest, by rw [e, eg]⟩
  · cases h4
/-! ### the Hook -/
abbrev AlZ : Type := ((He.AlT × Bool) × List FnZ) × List He.FnW
def obsZ (n : Nat) (fa : List He.Fa) (fn : List He.DefD) (ts : List He.Tab) (xs : List SuD) (ps : List PD) (ex : PySem.W.Frag → Bool) (g : Addr → Option Obj) : AlZ :=
  (((He.obsT fa fn ts (frY g n), ex (frY g n) && ps.all fun d => d.ok (frY g n)), xs.map fun d => suW (frY g n) d.cls), ps.map fun d => pdW (frY g n) d)
def valZ (fn : List He.DefD) (ts : List He.Tab) (xs : List SuD) (ps : List PD) (w : World) : AlZ := (((He.valT fn ts w, true), xs.map SuD.val), ps.map PD.val)
structure SaysZ (fa : List He.Fa) (fn : List He.DefD) (ts : List He.Tab) (xs : List SuD) (ps : List PD) (ex : PySem.W.Frag → Bool) (w : World) (K : PySem.W.Frag) : Prop where
  t : He.SaysT fa fn ts w K
  more : ex K = true
  pok : (ps.all fun d => d.ok K) = true
  sup : xs.map (fun d => suW K d.cls) = xs.map SuD.val
  pth : ps.map (fun d => pdW K d) = ps.map PD.val
theorem saysZ_of {fa : List He.Fa} {fn : List He.DefD} {ts : List He.Tab} {xs : List SuD} {ps : List PD} {ex : PySem.W.Frag → Bool} {w : World} {n : Nat} {g : Addr → Option Obj} (e : obsZ n fa fn ts xs ps ex g = valZ fn ts xs ps w) : SaysZ fa fn ts xs ps ex w (frY g n) := by
  have e1 : (ex (frY g n) && ps.all fun d => d.ok (frY g n)) = true := congrArg (fun z : AlZ => z.1.1.2) e
  rw [Bool.and_eq_true] at e1
  exact ⟨congrArg (fun z : AlZ => z.1.1.1) e, e1.1, e1.2, congrArg (fun z : AlZ => z.1.2) e, congrArg (fun z : AlZ => z.2) e⟩
def hookZ (n : Nat) (fa : List He.Fa) (fn : List He.DefD) (ts : List He.Tab) (xs : List SuD) (ps : List PD) (ex : PySem.W.Frag → Bool) : PySem.W.Hook where
  α := AlZ
  obs := fun s => obsZ n fa fn ts xs ps ex s.heap.get?
  val := fun w => valZ fn ts xs ps w
  says := fun w h => ∃ K : PySem.W.Frag, K.In h ∧ SaysZ fa fn ts xs ps ex w K
  of := fun _ _ e => ⟨_, He.frT_in, saysZ_of e⟩
  keeps := fun _ _ _ ⟨K, hK, c⟩ k => ⟨K, PySem.W.Frag.In.keeps hK k, c⟩
theorem obsZ_eq {n : Nat} {fa : List He.Fa} {fn : List He.DefD} {ts : List He.Tab} {xs : List SuD} {ps : List PD} {ex : PySem.W.Frag → Bool} {g : Addr → Option Obj} {s : Shared} (h : ∀ a, g a = s.heap.get? a) : obsZ n fa fn ts xs ps ex g = (hookZ n fa fn ts xs ps ex).obs s := by
  have e : g = s.heap.get? := funext h
  rw [e] <;> rfl
theorem SaysZ.path {fa : List He.Fa} {fn : List He.DefD} {ts : List He.Tab} {xs : List SuD} {ps : List PD} {ex : PySem.W.Frag → Bool} {w : World} {K : PySem.W.Frag} (c : SaysZ fa fn ts xs ps ex w K) (i : Nat) {d : PD} (h : ps[i]? = some d := by rfl) :
    ∃ fd, FunD K d.name d.qual (defArgs d.st) (defBody d.st) (defScope d.st) [] [] (d.at_ K) fd := by
  have e2 : (ps.map fun d => pdW K d)[i]? = (ps.map PD.val)[i]? := by rw [c.pth]
  rw [List.getElem?_map, List.getElem?_map, h] at e2
  exact PD.funD (Option.some.inj e2) (List.all_eq_true.mp c.pok d (List.mem_of_getElem? h))
/-! ### a table of texts with text keys, read for every text -/
def tabOfB (K : PySem.W.Frag) (a : Addr) (kvs : List (Str × Str)) : Bool := match K.lookup a with
  | some ⟨.type c, none, .dict es _, sl⟩ => decide (c = "dict") && (sl.isEmpty && decide (es.toList.map (fun e => (match e.key, e.val with | .str x _, .str y _ => some (x, y) | _, _ => none)) = kvs.map some))
  | _ => false
theorem tab_find {z : Str} : ∀ {l : List DictEntry} {kvs : List (Str × Str)}, l.map (fun e => (match e.key, e.val with | .str x _, .str y _ => some (x, y) | _, _ => none)) = kvs.map some →
    (∃ e y t, l.find? (·.key.isStr z) = some e ∧ kvs.lookup z = some y ∧ e.val = .str y t) ∨ (l.find? (·.key.isStr z) = none ∧ kvs.lookup z = none ∧ l.any (·.refKey) = false)
  | [], [], _ => .inr ⟨rfl, rfl, rfl⟩
  | [], _ :: _, h => by cases h
  | _ :: _, [], h => by cases h
  | e :: l, (x, y) :: kvs, h => by
    obtain ⟨h1, h2⟩ := List.cons.inj h
    obtain ⟨hash, key, val⟩ := e
    dsimp only at h1
    split at h1
    · rename_i x' t1 y' t2
      obtain ⟨rfl, rfl⟩ := Prod.mk.inj (Option.some.inj h1)
      by_cases hz : x' = z
      · subst hz
        refine .inl ⟨⟨hash, .str x' t1, .str y' t2⟩, y', t2, ?_, by simp [List.lookup], rfl⟩
        simp [List.find?, Value.isStr]
      · have k1 : (⟨hash, .str x' t1, .str y' t2⟩ : DictEntry).key.isStr z = false := by simp [Value.isStr, hz]
        have k2 : (z == x') = false := by simp [Ne.symm hz]
        rcases tab_find (z := z) h2 with ⟨e, y, t, a, b, c⟩ | ⟨a, b, c⟩
        · refine .inl ⟨e, y, t, ?_, ?_, c⟩
          · rw [List.find?_cons, k1]
            exact a
          · rw [List.lookup_cons, k2]
            exact b
        · refine .inr ⟨?_, ?_, ?_⟩
          · rw [List.find?_cons, k1]
            exact a
          · rw [List.lookup_cons, k2]
            exact b
          · rw [List.any_cons, c]
            rfl
    · cases h1
theorem tab_look {K : PySem.W.Frag} {a : Addr} {kvs : List (Str × Str)} (h : tabOfB K a kvs = true) (z : Str) : (∃ y t, kvs.lookup z = some y ∧ PySem.W.nsIn K a z = some (some (.str y t))) ∨ (kvs.lookup z = none ∧ PySem.W.nsIn K a z = some none) := by
  unfold tabOfB at h
  split at h
  · rename_i c es n sl e
    simp only [Bool.and_eq_true, decide_eq_true_eq] at h
    unfold PySem.W.nsIn
    rw [e]
    dsimp only
    rcases tab_find (z := z) h.2.2 with ⟨en, y, t, q1, q2, q3⟩ | ⟨q1, q2, q3⟩
    · rw [q1]
      exact .inl ⟨y, t, q2, congrArg (fun v => some (some v)) q3⟩
    · rw [q1]
      exact .inr ⟨q2, by show (if (es.toList.any fun x => x.refKey) = true then none else some none) = some none; rw [q3]; rfl⟩
  · cases h
end EX2
set_option Elab.async false
set_option linter.all false
set_option maxRecDepth 100000
set_option maxHeartbeats 4000000
/-! data in the heap: helpers; comprehensions whose elements grow the heap alone; sources -/
namespace EX2
open PySem PySem.Spec PyProof.Rows L2
section
variable {H H' : Hp}
theorem DqAll.get {xs : List V} {ds : List PyData} (h : DqAll H xs ds) : ∀ {i : Nat} {x : V}, xs[i]? = some x → ∃ d, ds[i]? = some d ∧ Dq H x d := by
  induction xs generalizing ds with
  | nil => intro i x e; simp at e
  | cons y ys ih =>
    cases h with
    | cons h t =>
      intro i x e
      cases i with
      | zero => simp only [List.getElem?_cons_zero, Option.some.injEq] at e ⊢; subst e; exact ⟨_, rfl, h⟩
      | succ i => simp only [List.getElem?_cons_succ] at e ⊢; exact ih t e
theorem DqAll.getD {xs : List V} {ds : List PyData} (h : DqAll H xs ds) : ∀ {i : Nat} {d : PyData}, ds[i]? = some d → ∃ x, xs[i]? = some x ∧ Dq H x d := by
  induction xs generalizing ds with
  | nil => cases h; intro i x e; simp at e
  | cons y ys ih =>
    cases h with
    | cons h t =>
      intro i x e
      cases i with
      | zero => simp only [List.getElem?_cons_zero, Option.some.injEq] at e ⊢; subst e; exact ⟨_, rfl, h⟩
      | succ i => simp only [List.getElem?_cons_succ] at e ⊢; exact ih t e
theorem DqAll.drop {xs : List V} {ds : List PyData} (h : DqAll H xs ds) : ∀ (n : Nat), DqAll H (xs.drop n) (ds.drop n) := by
  induction xs generalizing ds with
  | nil => cases h; intro n; simp; exact .nil
  | cons y ys ih =>
    cases h with
    | cons h t =>
      intro n
      cases n with
      | zero => exact .cons h t
      | succ n => exact ih t n
theorem DqAll.take {xs : List V} {ds : List PyData} (h : DqAll H xs ds) : ∀ (n : Nat), DqAll H (xs.take n) (ds.take n) := by
  induction xs generalizing ds with
  | nil => cases h; intro n; simp; exact .nil
  | cons y ys ih =>
    cases h with
    | cons h t =>
      intro n
      cases n with
      | zero => exact .nil
      | succ n => exact .cons h (ih t n)
theorem DqAll.app {xs ys : List V} {ds es : List PyData} (h : DqAll H xs ds) (g : DqAll H ys es) : DqAll H (xs ++ ys) (ds ++ es) := by
  induction xs generalizing ds with
  | nil => cases h; exact g
  | cons y zs ih => cases h with
    | cons h t => exact .cons h (ih t)
theorem Dq.tupI {x : V} {ds : List PyData} (h : Dq H x (.tuple ds)) : ∃ a xs, x = .ref a ∧ H a = some (.tup xs) ∧ DqAll H xs ds := by
  cases h with
  | tup e h => exact ⟨_, _, rfl, e, h⟩
theorem Dq.lstI {x : V} {ds : List PyData} (h : Dq H x (.list ds)) : ∃ a xs, x = .ref a ∧ H a = some (.lst xs) ∧ DqAll H xs ds := by
  cases h with
  | lst e h => exact ⟨_, _, rfl, e, h⟩
theorem Dq.strI {x : V} {z : Str} (h : Dq H x (.str z)) : x = .str z := by cases h; rfl
theorem Dq.intI {x : V} {z : Int} (h : Dq H x (.int z)) : x = .int z := by cases h; rfl
end
section
variable {J : It} {n : Nat} {G : Hp → Prop} {Y : Nat → Hp → V → Hp → Prop}
/-- a comprehension whose j-th element is v j, the heap growing -/
theorem lc_map (w : Walk J n G Y) {g : TG} {te : TE} {vs : List Nat} {σ : L2.St} {H1 : Hp} {D : Addr} {Qd : Hp → Prop} (hD : H1 D = none) (hG : ∀ H', Evl.Ex H1 H' → G H') (v : Nat → V) (hz : n ≤ 100000)
    (hY : ∀ j H2 x H3, j < n → Evl.Ex H1 H2 → Y j H2 x H3 → Evl.Ex H2 H3)
    (hs : ∀ j x H2 H3, j < n → Evl.Ex H1 H2 → Evl.Ex H1 H3 → Y j H2 x H3 → ∀ Qt : V → Hp → Prop, (∀ H4, Evl.Ex H3 H4 → Qt (v j) H4) → g x (wipe σ vs) H3 fun σ2 H4 => wipe σ2 vs = wipe σ vs ∧ te σ2 H4 Qt)
    (hd : ∀ H', Evl.Ex H1 H' → H' D = some (.lst ((List.range n).map v)) → Qd H') :
    ∃ W : Nat → Nat → Hp → Prop, (∃ m, W 0 m (upd H1 D (.lst []))) ∧ ∀ i m H, W i m H →
      (J.stop i H ∧ Qd H) ∨ (J.go i H ∧ ∃ Nx : Hp → Prop, (∀ H', Nx H' → ∃ m', m' < m ∧ W (i + 1) m' H') ∧ ∀ x H', J.yld i H x H' → g x (wipe σ vs) H' fun σ2 H2 => wipe σ2 vs = wipe σ vs ∧ tYes σ2 H2 fun b H3 =>
        if b = true then te σ2 H3 fun y H4 => ∃ acc, H4 D = some (.lst acc) ∧ acc.length < sizeLine ∧ Nx (upd H4 D (.lst (acc ++ [y]))) else Nx H3) := by
  refine lc_it w (fun j H' => Evl.Ex H1 H' ∧ H' D = some (.lst ((List.range j).map v))) ⟨Evl.Ex.new hD, upd_same⟩ (fun i H hi p => hG H p.1) ?_ (fun H p => hd H p.1 p.2)
  rintro j x H2 H3 hj ⟨e, hd2⟩ hy
  have e3 := hY j H2 x H3 hj e hy
  have q := hs j x H2 H3 hj e (e.trans e3) hy (fun y H4 => ∃ acc, H4 D = some (.lst acc) ∧ acc.length < sizeLine ∧ (Evl.Ex H1 (upd H4 D (.lst (acc ++ [y]))) ∧ (upd H4 D (.lst (acc ++ [y]))) D = some (.lst ((List.range (j + 1)).map v)))) ?_
  · simp only [tYes, if_true]
    exact q
  · intro H4 e4
    refine ⟨_, e4 _ _ (e3 _ _ hd2), ?_, ((e.trans e3).trans e4).mut hD, ?_⟩
    · rw [List.length_map, List.length_range]
      exact Evl.sz_lt (by omega)
    · rw [upd_same, List.range_succ, List.map_append]
      rfl
end
theorem map_range_get {α β : Type} (xs : List α) (f : α → β) (g : Nat → β) (h : ∀ i x, xs[i]? = some x → g i = f x) : (List.range xs.length).map g = xs.map f := by
  apply List.ext_getElem?
  intro i
  rw [List.getElem?_map, List.getElem?_map]
  by_cases hi : i < xs.length
  · rw [List.getElem?_eq_getElem hi]
    simp [hi, h i xs[i] (List.getElem?_eq_getElem hi)]
  · simp [hi]
section
variable {X : Cx}
/-- a tuple == () -/
theorem op_eq_tup0 (hu : X.A.units < cLine) : OpR X (compareOp .Eq) (fun x y H Q => ∃ (a b : Addr) (xs : List V), x = .ref a ∧ y = .ref b ∧ SqT X.K H a xs ∧ SqT X.K H b [] ∧ Q (.bl xs.isEmpty) H) := by
  intro pins s σ H x y v u Q I rx ry h
  obtain ⟨a, b, xs, rfl, rfl, ha, hb, q⟩ := h
  cases rx
  cases ry
  obtain ⟨its, rv, ht, hz⟩ := I.tuple ha
  obtain ⟨its2, rv2, ht2, hz2⟩ := I.tuple hb
  have l1 := rv.length
  have l2 := rv2.length
  have e2 : its2 = [] := List.length_eq_zero_iff.mp (by simpa using l2.symm)
  subst e2
  refine SeqAt.eq_tupleAt (e := fun _ => true) ht ht2 hu (fun j h1 h2 => absurd h2 (by simp)) ⟨.bl _, H, I, rfl, ?_⟩
  have e3 : ((List.range (min its.toArray.size ([] : List Value).toArray.size)).all (fun _ => true) && its.toArray.size == ([] : List Value).toArray.size) = xs.isEmpty := by
    cases xs with
    | nil => simp at l1; simp [← l1]
    | cons x xs => cases its with
      | nil => simp at l1
      | cons => simp
  rw [e3]
  exact q
end
/-! ### a source at p -/
/-- the heap but for p -/
def rm (p : Addr) (H : Hp) : Hp := fun a => if a = p then none else H a
theorem rm_ne {p a : Addr} {H : Hp} (h : a ≠ p) : rm p H a = H a := by unfold rm; rw [if_neg h]
theorem rm_ex {p : Addr} {H : Hp} : Evl.Ex (rm p H) H := fun a o h => by
  unfold rm at h
  split at h
  · cases h
  · exact h
theorem rm_ne_of {p a : Addr} {H : Hp} {o : HO} (h : rm p H a = some o) : a ≠ p := by
  intro e
  subst e
  unfold rm at h
  rw [if_pos rfl] at h
  cases h
def Sc (p : Addr) (H : Hp) : Prop := ∃ N S : Int, H p = some (.lst [.int N, .int S]) ∧ 0 ≤ N ∧ 0 ≤ S ∧ S < 2147483647
/-- what stood stands, the source at p aside -/
structure Lx (p : Addr) (H H' : Hp) : Prop where
  ex : Evl.Ex (rm p H) (rm p H')
  sc : Sc p H'
theorem Lx.trans {p : Addr} {H H1 H2 : Hp} (a : Lx p H H1) (b : Lx p H1 H2) : Lx p H H2 := ⟨a.ex.trans b.ex, b.sc⟩
theorem Lx.refl {p : Addr} {H : Hp} (s : Sc p H) : Lx p H H := ⟨.refl _, s⟩
theorem ex_rm {p : Addr} {H H' : Hp} (e : Evl.Ex H H') : Evl.Ex (rm p H) (rm p H') := fun a o h => by
  have n := rm_ne_of h
  rw [rm_ne n] at h ⊢
  exact e a o h
theorem Sc.ex {p : Addr} {H H' : Hp} (s : Sc p H) (e : Evl.Ex H H') : Sc p H' := by
  obtain ⟨N, S, h, r⟩ := s
  exact ⟨N, S, e _ _ h, r⟩
theorem Lx.of {p : Addr} {H H' : Hp} (s : Sc p H) (e : Evl.Ex H H') : Lx p H H' := ⟨ex_rm e, s.ex e⟩
theorem Lx.then {p : Addr} {H H1 H2 : Hp} (a : Lx p H H1) (e : Evl.Ex H1 H2) : Lx p H H2 := a.trans (.of a.sc e)
theorem Sc.ne {p q : Addr} {H : Hp} (s : Sc p H) (h : H q = none) : q ≠ p := by
  rintro rfl
  obtain ⟨N, S, e, _⟩ := s
  rw [h] at e
  cases e
/-- something new, then an old list that grows: D stood nowhere in H -/
theorem Lx.mut {p D : Addr} {H H' : Hp} {o : HO} (a : Lx p H H') (hp : D ≠ p) (h : H D = none) : Lx p H (upd H' D o) := by
  refine ⟨fun b u e => ?_, ?_⟩
  · have n := rm_ne_of e
    have e2 := a.ex b u e
    rw [rm_ne n] at e e2 ⊢
    by_cases hb : b = D
    · subst hb
      rw [h] at e
      cases e
    · rw [upd_ne hb]
      exact e2
  · obtain ⟨N, S, e, r⟩ := a.sc
    exact ⟨N, S, by rw [upd_ne hp.symm]; exact e, r⟩
theorem Lx.at {p a : Addr} {H H' : Hp} {o : HO} (l : Lx p H H') (h : H a = some o) (n : a ≠ p) : H' a = some o := by
  have := l.ex a o (by rw [rm_ne n]; exact h)
  rw [rm_ne n] at this
  exact this
/-- data that stands apart from the source -/
abbrev Dz (p : Addr) (H : Hp) (x : V) (d : PyData) : Prop := Dq (rm p H) x d
abbrev DzAll (p : Addr) (H : Hp) (xs : List V) (ds : List PyData) : Prop := DqAll (rm p H) xs ds
theorem Dz.q {p : Addr} {H : Hp} {x : V} {d : PyData} (h : Dz p H x d) : Dq H x d := Dq.ext rm_ex h
theorem Dz.lx {p : Addr} {H H' : Hp} {x : V} {d : PyData} (h : Dz p H x d) (l : Lx p H H') : Dz p H' x d := Dq.ext l.ex h
theorem DzAll.lx {p : Addr} {H H' : Hp} {x : List V} {d : List PyData} (h : DzAll p H x d) (l : Lx p H H') : DzAll p H' x d := DqAll.ext l.ex h
theorem Dz.tupN {p a : Addr} {H : Hp} {xs : List V} {ds : List PyData} (s : Sc p H) (ha : H a = none) (h : DzAll p H xs ds) : Dz p (upd H a (.tup xs)) (.ref a) (.tuple ds) := by
  have n := s.ne ha
  refine .tup (xs := xs) (by rw [rm_ne n]; exact upd_same) (DqAll.ext (ex_rm (Evl.Ex.new ha)) h)
theorem Dz.lstN {p a : Addr} {H : Hp} {xs : List V} {ds : List PyData} (s : Sc p H) (ha : H a = none) (h : DzAll p H xs ds) : Dz p (upd H a (.lst xs)) (.ref a) (.list ds) := by
  have n := s.ne ha
  refine .lst (xs := xs) (by rw [rm_ne n]; exact upd_same) (DqAll.ext (ex_rm (Evl.Ex.new ha)) h)
end EX2
set_option Elab.async false
set_option linter.all false
set_option maxRecDepth 100000
set_option maxHeartbeats 4000000
/-! d.update(d2) of int and text keys; == [] and != [] of any list -/
namespace EX2
open PySem PySem.Spec PyProof.Rows L2
def rDUpd : V → List V → Hp → VK → Prop := fun x vs H Q => ∃ (a b : Addr) (kvs more : List (Key × V)), x = .ref a ∧ vs = [.ref b] ∧ a ≠ b ∧ H a = some (.dK kvs) ∧ H b = some (.dK more) ∧ kvs.length + more.length ≤ sizeLine ∧ Q .non (upd H a (.dK (mergeK kvs more)))
theorem mtd_update {X : Cx} : MtR X "dict.update" rDUpd := by
  intro pins s σ H x vs v us Q I rx rv h
  obtain ⟨a, b, kvs, more, ex, ev, hne, ea, eb, hsz, q⟩ := h
  subst ex
  subst ev
  obtain rfl : v = Value.ref a := rx
  obtain ⟨u, rfl, ru⟩ := vals1 rv
  obtain rfl : u = Value.ref b := ru
  obtain ⟨z1, hd1, vs1, r1, dd1⟩ := dk_of I.hok ea
  obtain ⟨z2, hd2, vs2, r2, dd2⟩ := dk_of I.hok eb
  have l1 : kvs.length = vs1.length := Paired.length r1
  have l2 : more.length = vs2.length := Paired.length r2
  refine call_meetsIn PySem.F.slot_dict_update dd1.typeIs PySem.F.entry_dict_update (PySem.F.args_dict_update_2 _ _) (meets_dict_update (mixKind X.prog X.w) a b hne hd2)
    ⟨vs1, vs2, dd1, dd2, by rw [← l1, ← l2]; exact hsz, fun h' dd' _ hs => ⟨.non, _, ?_, rfl, q⟩⟩
  have he : ∃ q, h'.get? a = some q := let ⟨q, _, _, hq, _⟩ := dd'; ⟨q, hq⟩
  have hl : (mergeK kvs more).length ≤ sizeLine := Nat.le_trans (length_mergeK more kvs) hsz
  exact d_write (t' := s.toks) I (by rw [ea]; exact True.intro) hs he (dk_new hl hd1 (KV.merge r2 r1) dd')
section
variable {X : Cx} {o e : Expr} {to te : TE} {apos cpos : Pos}
theorem pe_dupd (ho : PE X o to) (ha : PE X e te) (hbase : attributeBase o "update" X.env (eval o X.env) = eval o X.env := by rfl)
    (hfew : ((backTo cpos (starEach [e] X.env)).all (fun x => !x.1) && (backToKw cpos (keywordEach [] X.env)).all (fun x => x.1.isSome)
      && decide ([e].length + ([] : List Keyword).length + (if ([] : List Keyword).isEmpty then 0 else 1) < 30)) = true := by rfl)
    (hline : (apos.endLine == cpos.line) = true := by rfl) (hs : starEach [e] X.env = (false, eval e X.env) :: starEach [] X.env := by rfl) :
    PE X (.Call (.Attribute o "update" apos) [e] [] cpos) (tBM X.K "dict" rDUpd to (tCons te tNil)) :=
  pe_bm PySem.F.plainAttrs_dict PySem.F.slot_dict_update PySem.F.type_dict_update mtd_update ho (pa_cons ha pa_nil hs) hbase hfew hline hs
end
section
variable {X : Cx}
def rL0 (K : PySem.W.Frag) (neg : Bool) : R2 := fun x y H Q => ∃ (a b : Addr) (xs : List V), x = .ref a ∧ y = .ref b ∧ SqL K H a xs ∧ SqL K H b [] ∧ Q (.bl (if neg then !xs.isEmpty else xs.isEmpty)) H
theorem op_eq_lst0 (hu : X.A.units < cLine) : OpR X (compareOp .Eq) (rL0 X.K false) := by
  intro pins s σ H x y v u Q I rx ry h
  obtain ⟨a, b, xs, rfl, rfl, ha, hb, q⟩ := h
  cases rx
  cases ry
  obtain ⟨its, rv, ht, hz⟩ := I.list ha
  obtain ⟨its2, rv2, ht2, hz2⟩ := I.list hb
  have l1 := rv.length
  have l2 := rv2.length
  have e2 : its2 = [] := List.length_eq_zero_iff.mp (by simpa using l2.symm)
  subst e2
  cases xs with
  | nil =>
    have e1 : its = [] := List.length_eq_zero_iff.mp (by simpa using l1.symm)
    subst e1
    exact SeqAt.eq_listAt (e := fun _ => true) ht.isList ht2.isList rfl hu (fun j h1 h2 => absurd h2 (by simp)) ⟨.bl _, H, I, rfl, q⟩
  | cons x xs =>
    refine SeqAt.eq_list_lengthsAt ht.isList ht2.isList ?_ hu ⟨.bl _, H, I, rfl, q⟩
    cases its with
    | nil => simp at l1
    | cons y ys => simp
theorem op_ne_lst0 (hu : X.A.units < cLine) : OpR X (compareOp .NotEq) (rL0 X.K true) := by
  intro pins s σ H x y v u Q I rx ry h
  obtain ⟨a, b, xs, rfl, rfl, ha, hb, q⟩ := h
  cases rx
  cases ry
  obtain ⟨its, rv, ht, hz⟩ := I.list ha
  obtain ⟨its2, rv2, ht2, hz2⟩ := I.list hb
  have l1 := rv.length
  have l2 := rv2.length
  have e2 : its2 = [] := List.length_eq_zero_iff.mp (by simpa using l2.symm)
  subst e2
  cases xs with
  | nil =>
    have e1 : its = [] := List.length_eq_zero_iff.mp (by simpa using l1.symm)
    subst e1
    exact (SeqAt.RcNeAt.lists (e := fun _ => true) ht.isList ht2.isList rfl hu (fun j h1 h2 => absurd h2 (by simp))) X.prog X.w _ _ ⟨.bl _, H, I, rfl, q⟩
  | cons x xs =>
    refine (SeqAt.RcNeAt.lists_lengths ht.isList ht2.isList ?_ hu) X.prog X.w _ _ ⟨.bl _, H, I, rfl, q⟩
    cases its with
    | nil => simp at l1
    | cons y ys => simp
end
section
variable {J : It} {n : Nat} {G : Hp → Prop} {Y : Nat → Hp → V → Hp → Prop}
/-- a comprehension with a test, the heap growing -/
theorem lc_filt (w : Walk J n G Y) {g : TG} {tt : TT} {te : TE} {vs : List Nat} {σ : L2.St} {H1 : Hp} {D : Addr} {Qd : Hp → Prop} (hD : H1 D = none) (hG : ∀ H', Evl.Ex H1 H' → G H') (b : Nat → Bool) (v : Nat → V) (hz : n ≤ 100000)
    (hY : ∀ j H2 x H3, j < n → Evl.Ex H1 H2 → Y j H2 x H3 → Evl.Ex H2 H3)
    (hs : ∀ j x H2 H3, j < n → Evl.Ex H1 H2 → Evl.Ex H1 H3 → Y j H2 x H3 → ∀ (Qa : V → Hp → Prop) (Qb : Hp → Prop), (∀ H4, Evl.Ex H3 H4 → b j = true → Qa (v j) H4) → (∀ H4, Evl.Ex H3 H4 → b j = false → Qb H4) →
      g x (wipe σ vs) H3 fun σ2 H4 => wipe σ2 vs = wipe σ vs ∧ tt σ2 H4 fun bb H5 => if bb = true then te σ2 H5 Qa else Qb H5)
    (hd : ∀ H', Evl.Ex H1 H' → H' D = some (.lst (((List.range n).filter b).map v)) → Qd H') :
    ∃ W : Nat → Nat → Hp → Prop, (∃ m, W 0 m (upd H1 D (.lst []))) ∧ ∀ i m H, W i m H →
      (J.stop i H ∧ Qd H) ∨ (J.go i H ∧ ∃ Nx : Hp → Prop, (∀ H', Nx H' → ∃ m', m' < m ∧ W (i + 1) m' H') ∧ ∀ x H', J.yld i H x H' → g x (wipe σ vs) H' fun σ2 H2 => wipe σ2 vs = wipe σ vs ∧ tt σ2 H2 fun b H3 =>
        if b = true then te σ2 H3 fun y H4 => ∃ acc, H4 D = some (.lst acc) ∧ acc.length < sizeLine ∧ Nx (upd H4 D (.lst (acc ++ [y]))) else Nx H3) := by
  refine lc_it w (fun j H' => Evl.Ex H1 H' ∧ H' D = some (.lst (((List.range j).filter b).map v))) ⟨Evl.Ex.new hD, upd_same⟩ (fun i H hi p => hG H p.1) ?_ (fun H p => hd H p.1 p.2)
  rintro j x H2 H3 hj ⟨e, hd2⟩ hy
  have e3 := hY j H2 x H3 hj e hy
  refine hs j x H2 H3 hj e (e.trans e3) hy _ _ (fun H4 e4 hb => ?_) (fun H4 e4 hb => ?_)
  · refine ⟨_, e4 _ _ (e3 _ _ hd2), ?_, ((e.trans e3).trans e4).mut hD, ?_⟩
    · rw [List.length_map]
      have := List.length_filter_le b (List.range j)
      rw [List.length_range] at this
      exact Evl.sz_lt (by omega)
    · rw [upd_same, List.range_succ, List.filter_append, List.map_append]
      simp [hb]
  · refine ⟨(e.trans e3).trans e4, ?_⟩
    rw [e4 _ _ (e3 _ _ hd2), List.range_succ, List.filter_append, List.map_append]
    simp [hb]
end
theorem filt_empty {n : Nat} {b : Nat → Bool} {v : Nat → V} : (((List.range n).filter b).map v).isEmpty = (List.range n).all fun i => !b i := by
  induction n with
  | zero => rfl
  | succ n ih =>
    rw [List.range_succ, List.filter_append, List.map_append, List.all_append, ← ih]
    cases hb : b n <;> simp [hb]
end EX2
set_option Elab.async false
set_option linter.all false
set_option maxRecDepth 100000
set_option maxHeartbeats 4000000
/-! data without lists; comprehensions that draw; a list or a tuple walked -/
namespace EX2
open PySem PySem.Spec PyProof.Rows L2
mutual
def noL : PyData → Bool
  | .list _ => false
  | .dict _ => false
  | .tuple ds => noLs ds
  | _ => true
def noLs : List PyData → Bool
  | [] => true
  | d :: ds => noL d && noLs ds
end
theorem noLs_mem {ds : List PyData} (h : noLs ds = true) : ∀ d ∈ ds, noL d = true := by
  induction ds with
  | nil => intro d hd; cases hd
  | cons e es ih =>
    simp only [noLs, Bool.and_eq_true] at h
    intro d hd
    rcases List.mem_cons.mp hd with rfl | hd
    · exact h.1
    · exact ih h.2 d hd
theorem noLs_of {ds : List PyData} (h : ∀ d ∈ ds, noL d = true) : noLs ds = true := by
  induction ds with
  | nil => rfl
  | cons e es ih =>
    simp only [noLs, Bool.and_eq_true]
    exact ⟨h e List.mem_cons_self, ih fun d hd => h d (List.mem_cons_of_mem _ hd)⟩
theorem noLs_app {a b : List PyData} (ha : noLs a = true) (hb : noLs b = true) : noLs (a ++ b) = true :=
  noLs_of fun d hd => (List.mem_append.mp hd).elim (noLs_mem ha d) (noLs_mem hb d)
section
variable {H : Hp} {D : Addr} {o : HO} {l : List V}
mutual
theorem Dq.mutD (hD : H D = some (.lst l)) : ∀ {x : V} {d : PyData}, Dq H x d → noL d = true → Dq (upd H D o) x d
  | _, _, .non, _ => .non
  | _, _, .bl b, _ => .bl b
  | _, _, .int i, _ => .int i
  | _, _, .str x, _ => .str x
  | _, _, .lst q h, n => by cases n
  | _, _, .tup (a := a) q h, n => .tup (by rw [upd_ne (ne_of q hD (fun z => nomatch z))]; exact q) (DqAll.mutD hD h n)
  | _, _, .dk q h, n => by cases n
theorem DqAll.mutD (hD : H D = some (.lst l)) : ∀ {xs : List V} {ds : List PyData}, DqAll H xs ds → noLs ds = true → DqAll (upd H D o) xs ds
  | _, _, .nil, _ => .nil
  | _, _, .cons h t, n => by
    simp only [noLs, Bool.and_eq_true] at n
    exact .cons (Dq.mutD hD h n.1) (DqAll.mutD hD t n.2)
end
end
theorem rm_upd {p D : Addr} {H : Hp} {o : HO} (h : D ≠ p) : rm p (upd H D o) = upd (rm p H) D o := by
  funext a
  by_cases ha : a = p
  · subst ha
    rw [upd_ne (Ne.symm h)]
    simp [rm]
  · rw [rm_ne ha]
    by_cases hb : a = D
    · subst hb; rw [upd_same, upd_same]
    · rw [upd_ne hb, upd_ne hb, rm_ne ha]
theorem rm_same {p : Addr} {H : Hp} {o : HO} : rm p (upd H p o) = rm p H := by
  funext a
  by_cases ha : a = p
  · subst ha; simp [rm]
  · rw [rm_ne ha, rm_ne ha, upd_ne ha]
theorem DzAll.mutD {p D : Addr} {H : Hp} {o : HO} {l : List V} {xs : List V} {ds : List PyData} (hD : H D = some (.lst l)) (np : D ≠ p) (h : DzAll p H xs ds) (n : noLs ds = true) : DzAll p (upd H D o) xs ds := by
  show DqAll (rm p (upd H D o)) xs ds
  rw [rm_upd np]
  exact DqAll.mutD (l := l) (by rw [rm_ne np]; exact hD) h n
theorem Dz.mutD {p D : Addr} {H : Hp} {o : HO} {l : List V} {x : V} {d : PyData} (hD : H D = some (.lst l)) (np : D ≠ p) (h : Dz p H x d) (n : noL d = true) : Dz p (upd H D o) x d := by
  show Dq (rm p (upd H D o)) x d
  rw [rm_upd np]
  exact Dq.mutD (l := l) (by rw [rm_ne np]; exact hD) h n
section
variable {J : It} {n : Nat} {G : Hp → Prop} {Y : Nat → Hp → V → Hp → Prop}
/-- a comprehension whose elements are drawn -/
theorem lc_lx (w : Walk J n G Y) {p : Addr} {g : TG} {te : TE} {vs : List Nat} {σ : L2.St} {H1 : Hp} {D : Addr} {Qd : Hp → Prop} (s : Sc p H1) (hD : H1 D = none) (hG : ∀ H', Lx p H1 H' → G H') (R : Nat → PyData → Prop) (hz : n ≤ 100000)
    (hY : ∀ j H2 x H3, Y j H2 x H3 → H3 = H2)
    (hs : ∀ j x H2, j < n → Lx p H1 H2 → Y j H2 x H2 → ∀ Qt : V → Hp → Prop, (∀ y d H4, Lx p H2 H4 → Dz p H4 y d → noL d = true → R j d → Qt y H4) → g x (wipe σ vs) H2 fun σ2 H4 => wipe σ2 vs = wipe σ vs ∧ te σ2 H4 Qt)
    (hd : ∀ H' xs ds, Lx p H1 H' → H' D = some (.lst xs) → DzAll p H' xs ds → ds.length = n → noLs ds = true → (∀ i d, ds[i]? = some d → R i d) → Qd H') :
    ∃ W : Nat → Nat → Hp → Prop, (∃ m, W 0 m (upd H1 D (.lst []))) ∧ ∀ i m H, W i m H →
      (J.stop i H ∧ Qd H) ∨ (J.go i H ∧ ∃ Nx : Hp → Prop, (∀ H', Nx H' → ∃ m', m' < m ∧ W (i + 1) m' H') ∧ ∀ x H', J.yld i H x H' → g x (wipe σ vs) H' fun σ2 H2 => wipe σ2 vs = wipe σ vs ∧ tYes σ2 H2 fun b H3 =>
        if b = true then te σ2 H3 fun y H4 => ∃ acc, H4 D = some (.lst acc) ∧ acc.length < sizeLine ∧ Nx (upd H4 D (.lst (acc ++ [y]))) else Nx H3) := by
  have np : D ≠ p := s.ne hD
  refine lc_it w (fun j H' => Lx p H1 H' ∧ ∃ xs ds, H' D = some (.lst xs) ∧ DzAll p H' xs ds ∧ ds.length = j ∧ noLs ds = true ∧ ∀ i d, ds[i]? = some d → R i d)
    ⟨.of s (Evl.Ex.new hD), [], [], upd_same, .nil, rfl, rfl, fun i d h => by simp at h⟩ (fun i H hi q => hG H q.1) ?_ (fun H ⟨l, xs, ds, a, b, c, d, e⟩ => hd H xs ds l a b c d e)
  rintro j x H2 H3 hj ⟨l, xs, ds, hd2, hall, hlen, hno, hR⟩ hy
  obtain rfl := hY j H2 x H3 hy
  have q := hs j x H3 hj l hy (fun y H4 => ∃ acc, H4 D = some (.lst acc) ∧ acc.length < sizeLine ∧ (Lx p H1 (upd H4 D (.lst (acc ++ [y]))) ∧ ∃ xs ds, (upd H4 D (.lst (acc ++ [y]))) D = some (.lst xs) ∧ DzAll p (upd H4 D (.lst (acc ++ [y]))) xs ds ∧ ds.length = j + 1 ∧ noLs ds = true ∧ ∀ i d, ds[i]? = some d → R i d)) ?_
  · simp only [tYes, if_true]
    exact q
  · intro y d H4 l4 hy4 hnd hRd
    have hD4 := l4.at hd2 np
    refine ⟨xs, hD4, ?_, (l.trans l4).mut np hD, xs ++ [y], ds ++ [d], upd_same, ?_, ?_, ?_, ?_⟩
    · rw [DqAll.length hall]
      exact Evl.sz_lt (by omega)
    · exact DqAll.app ((hall.lx l4).mutD hD4 np hno) (.cons (hy4.mutD hD4 np hnd) .nil)
    · rw [List.length_append, hlen]; rfl
    · exact noLs_app hno (by simp only [noLs, Bool.and_true]; exact hnd)
    · intro i e he
      rw [List.getElem?_append] at he
      split at he
      · exact hR i e he
      · rename_i hi
        have hi2 : i = ds.length := by
          rcases Nat.lt_or_ge i (ds.length + 1) with h | h
          · omega
          · rw [List.getElem?_eq_none (by simp; omega)] at he; cases he
        subst hi2
        rw [Nat.sub_self] at he
        cases he
        rw [hlen]
        exact hRd
end
/-! ### a list or a tuple walked -/
def iSeq (K : PySem.W.Frag) (tl : TE) : TI := fun σ H R => tl σ H fun x H1 => ∃ a, x = .ref a ∧ (((∃ xs, SqL K H1 a xs) ∧ R (Itl K a) H1) ∨ ((∃ xs, SqT K H1 a xs) ∧ R (Itt K a) H1))
theorem pi_seqq {X : Cx} {tg l : Expr} {tl : TE} (hl : PE X l tl) : PI X tg l (iSeq X.K tl) := by
  refine ⟨fun pins s σ H R I h => ?_⟩
  refine thn (hl.run pins s σ H _ I h) fun v s1 ⟨x, H1, I1, r1, q1⟩ => ?_
  obtain ⟨a, e, q1⟩ := q1
  subst e
  rcases q1 with ⟨⟨xs, hq⟩, q⟩ | ⟨⟨xs, hq⟩, q⟩
  · cases r1
    obtain ⟨its, rv, p, hz⟩ := I1.list hq
    refine wpAny_pyIter_list p.isList ?_
    refine ⟨s1.heap.objs.size, [s1.heap.objs.size], _, _, H1, rfl, I1.kept (t' := s1.toks) fun b o e => Heap.get?_push_of_some _ e, turn_list a _, ⟨_, Heap.get?_push_size _ rfl, rfl, rfl⟩, fun b hb => ?_, q⟩
    have e : b = s1.heap.objs.size := by simpa using hb
    subst e
    exact I1.fpOk (Nat.le_refl _) (I1.hok.fresh (Nat.le_refl _))
  · cases r1
    obtain ⟨its, rv, p, hz⟩ := I1.tuple hq
    refine wpAny_pyIter_tuple (show s1.heap.IsTuple a its.toArray from p) ?_
    refine ⟨s1.heap.objs.size, [s1.heap.objs.size], _, _, H1, rfl, I1.kept (t' := s1.toks) fun b o e => Heap.get?_push_of_some _ e, turn_tuple a _, ⟨_, Heap.get?_push_size _ rfl, rfl, rfl⟩, fun b hb => ?_, q⟩
    have e : b = s1.heap.objs.size := by simpa using hb
    subst e
    exact I1.fpOk (Nat.le_refl _) (I1.hok.fresh (Nat.le_refl _))
end EX2
set_option Elab.async false
set_option linter.all false
set_option maxRecDepth 100000
set_option maxHeartbeats 4000000
/-! l.extend(t), t a tuple -/
namespace EX2
open PySem PySem.Spec PyProof.Rows L2
theorem notLongL' {n : Nat} (h : n ≤ sizeLine) : Builtin.List.listTooLong n = false := by
  unfold Builtin.List.listTooLong
  have := sizeLine_eq
  exact decide_eq_false (by omega)
open AutoSeq1 in
theorem list_extend_tupG (l : Addr) (items : Array Value) (n : Nat) (b : Addr) (items2 : Array Value) (n2 : Nat) (dd : Option Addr) (sl : Array (Option Value)) (hs0 : ¬(!items.isEmpty && Builtin.List.listTooLong (items.size + items2.size)) = true) (hs1 : items.size ≤ sizeLine) (hs2 : items.size + items2.size ≤ sizeLine + 1) :
    Meets (Builtin.«list.extend» ⟨[.ref l, .ref b], []⟩) (fun _ R s => s.heap.get? l = some { cls := .type "list", dict := none, data := .seq items n, slots := #[] } ∧ s.heap.get? b = some { cls := .type "tuple", dict := dd, data := .seq items2 n2, slots := sl } ∧ R (.ok (.ret Value.none)) { s with heap := s.heap.update l (Obj.mapSeq fun x => x ++ items2), toks := s.toks }) :=
  .of_wp fun prog w A R s h => by
    obtain ⟨hp, g, d, tk, os⟩ := s; obtain ⟨hl, hb, h⟩ := h; have f1 := AutoSeq1.idx_int; have f2 := AutoSeq1.sub_tuple_tuple; have f3 := AutoSeq1.sub_list_list; have f4 := AutoSeq1.sub_tuple_list; have f5 := AutoSeq1.sub_list_tuple;
    have hz' : (items ++ items2).size ≤ sizeLine + 1 := by rw [Array.size_append]; exact hs2
    wp_walk using (wpAny_updateSeq hl rfl (hz := hs1) (_hz' := hz')), wpAny_loadPart' hl, wpAny_loadPart' hb; exact ⟨_, rfl, h⟩
def rExtT (K : PySem.W.Frag) : V → List V → Hp → VK → Prop := fun x vs H Q => ∃ (l b : Addr) (xs zs : List V), x = .ref l ∧ vs = [.ref b] ∧ H l = some (.lst xs) ∧ SqT K H b zs ∧ xs.length + zs.length ≤ sizeLine ∧ Q .non (upd H l (.lst (xs ++ zs)))
theorem mt_extT {X : Cx} : MtM X "list.extend" (rExtT X.K) := by
  intro pins s σ H x vs v us Q I rx rv h
  obtain ⟨l, b, xs, zs, rfl, rfl, hH, hB, hz, q⟩ := h
  cases rx
  obtain ⟨u, rfl, ru⟩ := rv.one
  cases ru
  obtain ⟨z, its, n, r, hl, e⟩ := I.lstM hH
  obtain ⟨its2, r2, ⟨o2, e2, c2, n2, d2⟩, hz2⟩ := I.tuple hB
  obtain ⟨oc, dd, od, sl⟩ := o2
  dsimp only at c2 d2
  subst c2 d2
  have l1 := r.length
  have l2 := r2.length
  have hsz : its.toArray.size + its2.toArray.size ≤ sizeLine := by rw [List.size_toArray, List.size_toArray]; omega
  have hlong : ¬ (!its.toArray.isEmpty && Builtin.List.listTooLong (its.toArray.size + its2.toArray.size)) = true := by
    rw [notLongL' hsz, Bool.and_false]
    exact Bool.false_ne_true
  refine call_meets F.slot_list_extend ⟨_, e, rfl⟩ F.entry_list_extend (F.args_list_extend_2 _ _)
    (list_extend_tupG l its.toArray n b its2.toArray n2 dd sl hlong (by rw [List.size_toArray]; omega) (by omega)) ⟨e, e2, ?_⟩
  refine ⟨.non, _, I.lset (its' := its ++ its2) hH e (by simp) (r.append r2) ?_, rfl, q⟩
  rw [List.length_append]
  omega
end EX2
set_option Elab.async false
set_option linter.all false
set_option maxRecDepth 100000
set_option maxHeartbeats 4000000
/-! an instance's attributes as targets of a tuple assignment; data beside an instance -/
namespace EX2
open PySem PySem.Spec PyProof.Rows L2
def gFld (K : PySem.W.Frag) (f : Str) (to : TE) : TG := fun y σ H Q => to σ H fun x H2 => ∃ (a C dx : Addr) (fs : List (Str × V)), x = .ref a ∧ H2 a = some (.ins C dx fs) ∧ Cls K C ∧ NoAttr K C f ∧ fs.length < 1000 ∧ Q σ (upd H2 a (.ins C dx (putF f y fs)))
theorem pg_fld {X : Cx} {o : Expr} {to : TE} {f : Str} {p : Pos} (ho : PE X o to) : PG X (.Attribute o f p) (gFld X.K f to) := by
  refine ⟨fun pins s σ H v u Q I r h => ?_⟩
  refine PySem.W.kas_attr (thn (ho.run pins s σ H _ I h) fun ov s2 ⟨x, H2, I2, r2, a, C, dx, fs, ex, ea, c, n, l, q⟩ => ?_)
  subst ex
  obtain rfl : ov = Value.ref a := r2
  exact setattr_ok I2 ea c n l r fun s3 I3 => ⟨σ, _, I3, q⟩
theorem no_swap3 {env : Env} (hk : env.scope.kind = .function) {o1 o2 o3 : Expr} {a1 a2 a3 : Str} {q1 q2 q3 q4 : Pos} {n1 : Nat} {v : Expr} : swappedStores [.Tuple [.Attribute o1 a1 q1, .Attribute o2 a2 q2, .Attribute o3 a3 q3] n1 q4] v env = pure none := by
  have e : env.blockKind = .function := by
    unfold Env.blockKind
    rw [hk]
    rfl
  unfold swappedStores
  cases v <;> first | rfl | skip
  rename_i vs _ _
  simp only [e]
  split
  · rfl
  · split
    · rfl
    · rename_i h
      split
      · rfl
      · rename_i h2
        exact absurd (by rfl) h2
section
variable {H H' : Hp} {a C dx : Addr} {fs : List (Str × V)}
mutual
theorem Dq.fr (ha : H a = some (.ins C dx fs)) (k : ∀ b o, b ≠ a → H b = some o → H' b = some o) : ∀ {x : V} {d : PyData}, Dq H x d → Dq H' x d
  | _, _, .non => .non
  | _, _, .bl b => .bl b
  | _, _, .int i => .int i
  | _, _, .str x => .str x
  | _, _, .lst q h => .lst (k _ _ (ne_of q ha (fun z => nomatch z)) q) (DqAll.fr ha k h)
  | _, _, .tup q h => .tup (k _ _ (ne_of q ha (fun z => nomatch z)) q) (DqAll.fr ha k h)
  | _, _, .dk q h => .dk (k _ _ (ne_of q ha (fun z => nomatch z)) q) (DqAll.fr ha k h)
theorem DqAll.fr (ha : H a = some (.ins C dx fs)) (k : ∀ b o, b ≠ a → H b = some o → H' b = some o) : ∀ {xs : List V} {ds : List PyData}, DqAll H xs ds → DqAll H' xs ds
  | _, _, .nil => .nil
  | _, _, .cons h t => .cons (Dq.fr ha k h) (DqAll.fr ha k t)
end
end
/-- a method's object -/
structure MethAt (C : Addr) (H : Hp) (m : V) (n : V) (ps : List PyData) (r : V) (sz : V) (cd : List PyData) : Prop where
  ex : ∃ (x dx : Addr) (p c : V), m = .ref x ∧ H x = some (.ins C dx [("own_name", n), ("own_params", p), ("own_result", r), ("own_size", sz), ("own_code", c)]) ∧ Dq H p (.tuple ps) ∧ Dq H c (.tuple cd)
theorem MethAt.ext {C : Addr} {H H' : Hp} {m n r sz : V} {ps cd : List PyData} (h : MethAt C H m n ps r sz cd) (e : Evl.Ex H H') : MethAt C H' m n ps r sz cd := by
  obtain ⟨x, dx, p, c, h1, h2, h3, h4⟩ := h.ex
  exact ⟨x, dx, p, c, h1, e _ _ h2, h3.ext e, h4.ext e⟩
end EX2
set_option Elab.async false
set_option linter.all false
set_option maxRecDepth 100000
set_option maxHeartbeats 2000000
/-! raising an own exception with a super().__init__; an own class made in a try; isinstance of the caught one -/
namespace EX2
open PySem PySem.Spec PyProof.Rows L2
/-- raise C(e, ..) -/
def tMkR (C : Addr) (n : Nat) (fs : List V → List (Str × V)) (ta : TA) : L2.St → Hp → XK → Prop := fun σ H Q => ta σ H fun vs H1 => vs.length = n ∧ ∀ (dx : Addr) (H' : Hp), Evl.Ex H1 H' → H' dx = some (.xd (fs vs)) → Q (.ref C) (some dx) H'
section
variable {X : Cx} {e : Expr} {es : List Expr} {ta : TA} {p pos : Pos}
theorem pmk_xk {x : Str} {C fI : Addr} {k n : Nat} {fd : FuncData} {ps : List Str} {fs : List V → List (Str × V)} (T : ExK X.K C) (iC : PySem.W.findIn X.K (.ref C) "__init__" = some (some (.ref fI))) (tI : PySem.W.typeIn X.K (.ref fI) = some (.type "function"))
    (F1 : FnOk X.prog X.w X.K X.mg X.base CX0 k fI fd ps (spX C n fs)) (hr : Room (k + 1) X.A) (hb : Binds X.K fd ps []) (hg : Gl X x) (hm : X.mg x = some (.ref C)) (hn : n ≤ 1000) (ha : PA X (e :: es) ta)
    (hdb : (x == ("__debug__" : Str)) = false := by decide) (he : starEach (e :: es) X.env = (false, eval e X.env) :: starEach es X.env := by rfl) (hpl : (backTo pos (starEach es X.env)).any (·.1) = false := by rfl) :
    PMk X (.Call (.Name x p) (e :: es) [] pos) (tMkR C n fs ta) := by
  intro pins s σ H Q I h
  refine wpAny_Call_Name_kw (ld_glob I hg hm ?_ hdb)
  refine PySem.W.callWith_K (h₀ := X.base) I.ok.mod.kin T.kC (thn (ha.run pos pins s σ H _ I h) fun us s1 ⟨vs, H1, I1, r1, hz, q1⟩ => ⟨I1.kIn, ?_⟩) he hpl
  show wpAny _ _ (call (.ref C) us) _ _ _
  obtain ⟨nm, Nn, qd, bs, bm, hdct, sn, sub, ab, col, dd, k0, k1, k2, k3, k5, hC, hT⟩ := PySem.W.excInit_of I1.kIn T.init
  obtain ⟨hp, g, dr, tk, os⟩ := s1
  have hsz : hp.objs.size ≤ hp.objs.size + 1 := Nat.le_succ _
  have hn1 : H1 (hp.objs.size + 1) = none := I1.hok.fresh hsz
  have kk : ∀ b o, hp.get? b = some o → ((hp.push (PySem.W.kdv_tup us)).push (PySem.HandSPX.excO C hp.objs.size)).get? b = some o := fun b o e => Heap.get?_push_of_some _ (Heap.get?_push_of_some _ e)
  have hget : ((hp.push (PySem.W.kdv_tup us)).push (PySem.HandSPX.excO C hp.objs.size)).get? (hp.objs.size + 1) = some (PySem.HandSPX.excO C hp.objs.size) := by heap_get
  have I2 : Inv X pins σ (upd H1 (hp.objs.size + 1) (exo (hp.objs.size + 1) C none)) ⟨(hp.push (PySem.W.kdv_tup us)).push (PySem.HandSPX.excO C hp.objs.size), g, dr, tk, os⟩ :=
    I1.laid (t' := tk) (a := hp.objs.size + 1) (o := exo (hp.objs.size + 1) C none) (h' := (hp.push (PySem.W.kdv_tup us)).push (PySem.HandSPX.excO C hp.objs.size)) kk hsz (exo_ok hget)
  have r2 : Vals (V.ref (hp.objs.size + 1) :: vs) (Value.ref (hp.objs.size + 1) :: us) := .cons rfl r1
  have hus : us.length ≤ sizeLine := by
    rw [← Paired.length r1, hz, sizeLine_eq]
    omega
  have hsp : spX C n fs (V.ref (hp.objs.size + 1) :: vs) (upd H1 (hp.objs.size + 1) (exo (hp.objs.size + 1) C none)) (fun v H2 => v = .non ∧ ∃ d, H2 (hp.objs.size + 1) = some (exo (hp.objs.size + 1) C (some d)) ∧ H2 d = some (exd d (fs vs)) ∧ H1 d = none ∧
      Q (.ref C) (some d) (upd (L2.del H2 (hp.objs.size + 1)) d (.xd (fs vs)))) (fun _ _ _ => False) := by
    refine ⟨_, vs, rfl, hz, upd_same, fun H' dx k1 hd hne h1 h2 => ⟨rfl, dx, h1, h2, ?_, ?_⟩⟩
    · rw [upd_ne hne] at hd
      exact hd
    · rw [upd_ne hne] at hd
      refine q1 dx _ (fun b o hb => ?_) upd_same
      have hba : b ≠ hp.objs.size + 1 := ne_of_none hb hn1
      rw [upd_ne (ne_of_none hb hd), L2.del_ne hba]
      refine k1 b o hba ?_
      rw [upd_ne hba]
      exact hb
  have hlen := F1.len _ _ _ _ hsp
  have hbt := hb ⟨(hp.push (PySem.W.kdv_tup us)).push (PySem.HandSPX.excO C hp.objs.size), g, dr, tk, os⟩ (Value.ref (hp.objs.size + 1) :: us) I2.kIn (by rw [List.append_nil, ← r2.length]; exact hlen)
  rw [List.append_nil] at hbt
  refine wpAny_call (PySem.HandSPX.call_own F.excBase_Exception hT hC (PySem.W.looks_findIn I1.kIn iC) (fun self => PySem.W.bind_fn I1.kIn self tI) hus
    (codeAny_mono (F1.run _ X.stack _ _ ⟨Value.ref (hp.objs.size + 1) :: us, []⟩ (Value.ref (hp.objs.size + 1) :: us) _ _ (fun _ _ _ => False) (hr.make C us []) (I2.env0.make C us []) hbt r2 hsp) fun r s' hq' => ?_))
  cases r with
  | error er => exact False.elim hq'
  | ok fl =>
    cases fl with
    | ret u =>
      obtain ⟨v, H2, os2, bare2, un2, hok2, rv, ev, d, ea, ed, hd1, q2⟩ := hq'
      subst ev
      obtain ⟨h2, g2, d2, t2, os'⟩ := s'
      exact ⟨rv, mk_end (raises_own T.exC T.tyC) I1 hsz kk un2 hok2 os2 bare2 ea ed hd1 q2⟩
    | next => exact False.elim hq'
    | brk => exact False.elim hq'
    | cont => exact False.elim hq'
end
/-! ### a class made, at the slots σ -/
section
variable {X : Cx} {CX : CXT} {k : Nat} {f C : Addr} {fd : FuncData} {ps : List Str} {sp : Sp} {E : L2.St → XK} {x : Str} {p pos : Pos} {e : Expr} {es : List Expr} {t : TA}
def tMakeS (C : Addr) (sp : Sp) (E : L2.St → XK) (t : TA) : TE := fun σ H Q => t σ H fun vs H1 => ∀ x dx, H1 x = none → H1 dx = none → dx ≠ x → sp (.ref x :: vs) (upd (upd H1 dx (.own x)) x (.ins C dx [])) (fun v H2 => v = .non ∧ Q (.ref x) H2) (E σ)
theorem pe_makeS (M : Mk X.K C f) (F : FnOk X.prog X.w X.K X.mg X.base CX k f fd ps sp) (hr : Room (k + 1) X.A) (hg : Gl X x) (hm : X.mg x = some (.ref C)) (hb : Binds X.K fd ps []) (hx : ∀ σ, PassesAt CX X σ (E σ))
    (ha : PA X (e :: es) t) (hdb : (x == ("__debug__" : Str)) = false := by decide) (he : starEach (e :: es) X.env = (false, eval e X.env) :: starEach es X.env := by rfl) (hpl : (backTo pos (starEach es X.env)).any (·.1) = false := by rfl) :
    PE X (.Call (.Name x p) (e :: es) [] pos) (tMakeS C sp E t) := by
  refine ⟨fun pins s σ H Q I h => ?_⟩
  refine wpAny_Call_Name_kw (ld_glob I hg hm ?_ hdb)
  refine PySem.W.callWith_K (h₀ := X.base) I.ok.mod.kin M.kp (thn (ha.run pos pins s σ H _ I h) fun us s1 ⟨vs, H1, I1, r, q⟩ => ⟨I1.kIn, ?_⟩) he hpl
  have hq := q (s1.heap.objs.size + 1) s1.heap.objs.size (I1.hok.fresh (Nat.le_succ _)) (I1.hok.fresh (Nat.le_refl _)) (Nat.ne_of_lt (Nat.lt_succ_self _))
  have I2 := Inv.made (C := C) I1
  have r2 : Vals (V.ref (s1.heap.objs.size + 1) :: vs) (Value.ref (s1.heap.objs.size + 1) :: us) := .cons rfl r
  have hl : (Value.ref (s1.heap.objs.size + 1) :: us).length = ps.length := by
    have e := r2.length
    rw [F.len _ _ _ _ hq] at e
    exact e.symm
  have hbt := hb _ (Value.ref (s1.heap.objs.size + 1) :: us) I2.kIn (by rw [List.append_nil]; exact hl)
  rw [List.append_nil] at hbt
  refine wpAny_call (make_map (f := f) I1.kIn M.makes M.init (beq_iff_eq.mp M.fn) (codeAny_mono (F.run _ X.stack _ _ ⟨Value.ref (s1.heap.objs.size + 1) :: us, []⟩ (Value.ref (s1.heap.objs.size + 1) :: us) _ _ (E σ) (hr.make C us [])
    (I2.env0.make C us []) hbt r2 hq) fun r s' hq' => ?_))
  cases r with
  | error e => exact hx σ pins _ _ e s' I2 hq'
  | ok fl =>
    cases fl with
    | ret u =>
      obtain ⟨v, H', I3, rv, ev, q3⟩ := I2.after hq'
      subst ev
      exact ⟨rv, ⟨V.ref (s1.heap.objs.size + 1), H', I3, rfl, q3⟩⟩
    | next => exact False.elim hq'
    | brk => exact False.elim hq'
    | cont => exact False.elim hq'
end
/-- isinstance(e, c), e the caught exception with its dict -/
def rIsXE (K : PySem.W.Frag) (a : Addr) (cls : Value) (d : Option Addr) : List V → Hp → VK → Prop := fun xs H Q => ∃ (C dd : Addr) (fs : List (Str × V)) (c : V) (u : Value) (b : Bool), xs = [.ref a, c] ∧ ClsV c u ∧ cls = .ref C ∧ d = some dd ∧ H dd = some (.xd fs) ∧ ExcC K C ∧ PySem.W.kitOne K (.ref C) u = some b ∧ Q (.bl b) H
theorem call_isXE {X : Cx} {a : Addr} {oe : Obj} {cls : Value} {d : Option Addr} {pn : List (Addr × Obj)} (hz : Zc cls d oe) (hf : ∃ vs, oe.data = .fields vs) : CallR (X.suite a ((a, oe) :: pn)) (.builtin "isinstance") (rIsXE X.K a cls d) := by
  intro pins s σ H xs us Q I r h
  obtain ⟨C, dd, fs, c, u, b, rfl, k, ec, ed, hd, T, e, q⟩ := h
  subst ec ed
  obtain ⟨u1, u2, rfl, r1, r2⟩ := vals2 r
  have e2 := k.eq r2
  subst e2
  obtain rfl : u1 = Value.ref a := r1
  obtain ⟨hget, _⟩ := I.pin (a, oe) (List.mem_append.mpr (.inl List.mem_cons_self))
  obtain ⟨vs, hv⟩ := hf
  obtain ⟨mA, hns, rel⟩ : ObjOk X.prog X.w H s.heap dd (.xd fs) := I.hok dd _ hd
  obtain ⟨od, hod, hl⟩ := lookIn_ns hns
  have J : PySem.W.InstAt s.heap a oe C (some od) := by
    obtain ⟨oc, odd, oda, osl⟩ := oe
    obtain ⟨h1, h2⟩ := hz
    dsimp only at h1 h2 hv
    subst h1 h2 hv
    exact ⟨hget, rfl, rfl, hod⟩
  exact PySem.W.kia_one (PySem.W.kitx_excD T.hg T.hk T.hs T.hd T.ha T.hn T.ht T.hm) I.kIn J e (fun z => nomatch z) fun tk => ⟨.bl b, H, I.tok tk, rfl, q⟩
end EX2
set_option Elab.async false
set_option linter.all false
set_option maxRecDepth 100000
set_option maxHeartbeats 2000000
/-! x == y, x an instance of a class with its own == -/
namespace EX2
open PySem PySem.Spec PyProof.Rows L2
def rEqI (C : Addr) (sp : Sp) : R2 := fun x y H Q => ∃ (a dx : Addr) (fs : List (Str × V)) (b : Addr), x = .ref a ∧ y = .ref b ∧ H a = some (.ins C dx fs) ∧ ((∃ dy gs, H b = some (.ins C dy gs)) ∨ ∃ xs, H b = some (.lst xs)) ∧
  sp [.ref a, .ref b] H (fun v H' => ∃ r, v = .bl r ∧ Q (.bl r) H') E0
theorem op_eqI {X : Cx} {C f : Addr} {n : Nat} {fd : FuncData} {ps : List Str} {sp : Sp} (F : FnOk X.prog X.w X.K X.mg X.base CX0 n f fd ps sp) (hs : PySem.W.findIn X.K (.ref C) "__eq__" = some (some (.ref f))) (hf : PySem.W.isFn X.K (.ref f) = true) (hb : Binds X.K fd ps []) (hr : Room n X.A) :
    OpR X (compareOp .Eq) (rEqI C sp) := by
  intro pins s σ H x y v u Q I rx ry h
  obtain ⟨a, dx, fs, b, rfl, rfl, ha, hb', hsp⟩ := h
  cases rx
  cases ry
  show wpAny (model X.prog X.w) X.A (richCompare .Eq (.ref a) (.ref b)) (EP X pins σ Q) X.xe s
  obtain ⟨mA, J, _⟩ := ins_get I.hok ha
  obtain ⟨od, J, _⟩ := J.look
  obtain ⟨m, hF⟩ := I.fr
  have hy : ∃ tb, PySem.W.Looks (model X.prog X.w) s.heap (typeOf (.ref b)) tb ∧ PySem.W.notFirst X.K C tb = true := by
    rcases hb' with ⟨dy, gs, hb'⟩ | ⟨xs, hb'⟩
    · obtain ⟨mB, J', _⟩ := ins_get I.hok hb'
      obtain ⟨od', J', _⟩ := J'.look
      exact ⟨.ref C, J'.type, by simp [PySem.W.notFirst]⟩
    · obtain ⟨_, its, nn, _, hg⟩ : ObjOk X.prog X.w H s.heap b (.lst xs) := I.hok b _ hb'
      exact ⟨.type "list", fun A Q E s k q => wpAny_typeOf_ref (k _ _ hg) q, by
        have e : PySem.W.subIn X.K (.type "list") (.ref C) = some false := by
          show Option.map (fun x => x.contains (Value.ref C)) (fastBuiltinMro "list") = some false
          rw [show fastBuiltinMro "list" = some [.type "list", .type "object"] from by kernel_rfl]
          rfl
        unfold PySem.W.notFirst
        rw [e]
        rfl⟩
  obtain ⟨tb, LT, hn⟩ := hy
  refine PySem.W.cmp_K (op := .Eq) (tb := tb) hr.units0 hF I.ok.mod.kin J LT hn hs hf ?_
  have hl := F.len _ _ _ _ hsp
  have r2 : Vals [V.ref a, V.ref b] [Value.ref a, Value.ref b] := .cons rfl (.cons rfl .nil)
  refine wpAny_call (codeAny_mono (F.run X.A X.stack s H ⟨[.ref a, .ref b], []⟩ [.ref a, .ref b] [.ref a, .ref b] _ E0 hr I.env0 (by
    have := hb s [.ref a, .ref b] I.kIn (by simpa using hl)
    simpa using this) r2 hsp) fun r s' hq => ?_)
  cases r with
  | error e => exact hq.elim
  | ok fl =>
    cases fl with
    | ret w =>
      obtain ⟨z, H', I', rz, r, ez, q⟩ := I.after hq
      subst ez
      cases rz
      exact ⟨.bl r, H', I', rfl, q⟩
    | next => exact False.elim hq
    | brk => exact False.elim hq
    | cont => exact False.elim hq
end EX2
set_option Elab.async false
set_option linter.all false
set_option maxRecDepth 100000
set_option maxHeartbeats 4000000
/-! a dict of one pair, its key a tuple of texts and ints; repr of data or of such a dict; the heap before a source -/
namespace EX2
open PySem PySem.Spec PyProof.Rows L2
/-- {k: v}, k a tuple of ints and texts -/
def tDisT (tk tv : TE) : TE := fun σ H Q => ∀ p, H p = none → tPairs [(tk, tv)] σ (upd H p (.dT [])) fun ps H2 => H2 p = some (.dT []) ∧ ∃ (b : Addr) (ks : List Key) (y : V), ps = [(.ref b, y)] ∧ H2 b = some (.tup (ks.map kV)) ∧ Q (.ref p) (upd H2 p (.dT [(ks, y)]))
theorem pe_disT {X : Cx} {pos : Pos} {k v : Expr} {tk tv : TE} (hu : X.A.units + 1 < cLine) (hk : PE X k tk) (hv : PE X v tv) : PE X (.Dict [some k] [v] pos) (tDisT tk tv) := by
  refine ⟨fun pins s σ H Q I q => ?_⟩
  have hn := I.hok.fresh (Nat.le_refl s.heap.objs.size)
  have I1 := I.laid (a := s.heap.objs.size) (o := .dT []) (h' := s.heap.push { cls := .type "dict", data := .dict #[] }) (t' := s.toks) (fun _ _ q => Heap.get?_push_of_some _ q) (Nat.le_refl _) (dt_empty s.heap I.big)
  have hpp : PPs X pos [some k] [v] [(tk, tv)] := pps_cons hk hv pps_nil
  have q0 := q _ hn
  rw [arm_eval_Dict, zip_pairTrees [some k] [v] X.env pos rfl rfl, dictDisplay_pairs (pairTrees [some k] [v] X.env pos) (by simp [pairTrees]) (by simp [pairTrees])]
  refine wpAny_bind (wpAny_standAt (wpAny_bind (wpAny_subDictH (knd := tupleKind (mixKind X.prog X.w)) (Q := fun d s' => wpAny (model X.prog X.w) X.A (pure (Value.ref d)) (EP X pins σ Q) X.xe s') ?_ (by simp [pairTrees]) ?_)))
  · exact Nat.lt_of_succ_lt hu
  refine thn (hpp.run pins _ σ _ _ I1 q0) ?_
  rintro ws s2 ⟨ps, H2, I2, rel, e, b, ks, y, rfl, eb, q2⟩
  cases rel with
  | cons h t =>
    cases t
    rename_i wv
    obtain ⟨w1, w2⟩ := wv
    obtain ⟨r1, r2⟩ := h
    obtain rfl : w1 = Value.ref b := r1
    obtain ⟨z, hd, xs, rx, dd⟩ := dt_of I2.hok e
    cases rx
    refine ⟨[(ks, b, w2)], ⟨rfl, rfl, key_of I2.hok eb, trivial⟩, dd, fun h' tk dd' hs => ?_⟩
    obtain ⟨q, es, ep, hq, h2, h3, h4, _, h5⟩ := dd'
    refine wpAny_pure ⟨.ref s.heap.objs.size, _, ?_, rfl, q2⟩
    refine d_write (t' := tk) I2 (by rw [e]; exact True.intro) hs ⟨q, hq⟩ ⟨by rw [sizeLine_eq]; simp, hd, [(ks, b, w2)], .cons ⟨rfl, ?_, r2⟩ .nil, q, es, ep, hq, h2, h3, h4, h5⟩
    rw [upd_ne (ne_of eb e (fun z => nomatch z))]
    exact eb
/-- the dict of one pair as data -/
def tdD (ks : List Key) (d : PyData) : PyData := .dict [(.tuple (ks.map kD), d)]
/-- data, or the dict of one pair whose key is a tuple -/
inductive Dw (H : Hp) : V → PyData → Prop
  | q {x : V} {d : PyData} (h : Dq H x d) : Dw H x d
  | t {a : Addr} {ks : List Key} {y : V} {d : PyData} (e : H a = some (.dT [(ks, y)])) (h : Dq H y d) : Dw H (.ref a) (tdD ks d)
theorem Dw.ext {H H' : Hp} (e : Evl.Ex H H') {x : V} {d : PyData} (h : Dw H x d) : Dw H' x d := by
  cases h with
  | q h => exact .q (h.ext e)
  | t a h => exact .t (e _ _ a) (h.ext e)
theorem keysD (H : Hp) : ∀ ks : List Key, DqAll H (ks.map kV) (ks.map kD)
  | [] => .nil
  | .inl i :: l => .cons (.int i) (keysD H l)
  | .inr x :: l => .cons (.str x) (keysD H l)
theorem Dw.reads {P : Program} {w : World} {H : Hp} {h : Heap} (ok : HOk P w H h) (sd : SysD h) {a : Addr} {ks : List Key} {y : V} {d : PyData} (e : H a = some (.dT [(ks, y)])) (q : Dq H y d) : ∃ as, Reads h (.ref a) (tdD ks d) as ∧ sysModules ∉ as := by
  obtain ⟨hz, hs, vs, rk, o, es, ep, h1, h2, h3, h4, _⟩ := (show ObjOk P w H h a (.dT [(ks, y)]) from ok a _ e)
  cases rk with
  | @cons _ x _ _ hh t =>
    cases t
    obtain ⟨k', b, v'⟩ := x
    obtain ⟨e1, e2, e3⟩ : ks = k' ∧ H b = some (.tup (ks.map kV)) ∧ L2.RelV y v' := hh
    cases e1
    obtain ⟨as, r1, n1⟩ := Dq.reads ok sd (.ref b) (.tup e2 (keysD H ks)) rfl
    obtain ⟨bs, r2, n2⟩ := Dq.reads ok sd v' q e3
    refine ⟨_, .dict h1 h2.1 h3 (as := as ++ []) (bs := bs ++ []) ?_ ?_, fun z => ?_⟩
    · rw [h4]
      exact .cons r1 .nil
    · rw [h4]
      exact .cons r2 .nil
    · rcases List.mem_cons.mp (show sysModules ∈ a :: (as ++ [] ++ (bs ++ [])) from z) with z | z
      · rw [z] at hs
        simp at hs
      · simp at z
        exact z.elim n1 n2
/-! ### repr of it -/
def rReprW : List V → Hp → VK → Prop := fun xs H Q => ∃ (x : V) (d : PyData), xs = [x] ∧ Dw H x d ∧ d.showable = true ∧ d.shown.length ≤ sizeLine ∧ d.depth ≤ 60 ∧ Q (.str d.shown) H
theorem call_reprW {X : Cx} (hg : X.A.guards = some []) (hu : X.A.units + 65 < cLine) (sd : SysD X.base) : CallR X (.builtin "repr") rReprW := by
  intro pins s σ H xs us Q I r h
  obtain ⟨x, d, rfl, hd, hs, hz, hdp, q⟩ := h
  cases hd with
  | q hd => exact call_reprD hg hu sd pins s σ H _ us Q I r ⟨x, d, rfl, hd, hs, hz, hdp, q⟩
  | @t a ks y d e hq =>
    obtain ⟨u, rfl, r1⟩ := vals1 r
    have sd1 : SysD s.heap := by
      obtain ⟨o, es, n, h1, h2⟩ := sd
      exact ⟨o, es, n, I.bk _ _ h1, h2⟩
    obtain ⟨as, rd, hn⟩ := Dw.reads I.hok sd1 e hq
    obtain rfl : u = Value.ref a := r1
    exact repr_of_reads' rd hs (fun _ => hn) hg (by omega) (fun _ _ e => e) (fun h' u tk k => ⟨.str _, H, I.kept (t' := tk) k, ⟨_, rfl⟩, q⟩) hz
/-! ### the heap before a source -/
theorem Lx.back {p : Addr} {H H1 H' : Hp} {o : HO} (hp : H p = none) (l : Lx p (upd H p o) H') : Evl.Ex H H' := fun b u e => by
  have nb : b ≠ p := by rintro rfl; rw [hp] at e; cases e
  exact l.at (by rw [upd_ne nb]; exact e) nb
theorem ok_get {P : Program} {w : World} {K : PySem.W.Frag} {mg : Str → Option Value} {base : Heap} {f : Addr} {fd : FuncData} {C : Addr} {name qual x : Str} {params : Arguments} {body : List Stmt} {scope : Scope} {N : List Str} {p1 p2 p3 : Pos}
    (F : FunD K name qual params body scope [] [] f fd) (S : FnScope N ["self"] scope) (hN : N[0]? = some ("self" : Str)) (hb : body = [.Return (some (.Attribute (.Name "self" p1) x p2)) p3]) (c : Cls K C) (n : NoAttr K C x) : FnOk P w K mg base CX0 1 f fd ["self"] (getSp C x) := by
  refine F.ok S (fun vs H Q E h => ?_) (fun cdv A outer s H vs Q E hr h => ?_)
  · obtain ⟨a, dx, fs, v, e, _⟩ := h
    rw [e]
    rfl
  · obtain ⟨a, dx, fs, v, e, ea, l, q⟩ := h
    subst e
    subst hb
    refine ⟨_, PSs.nox (pss_one (ps_ret (pe_fld (pe_var (i := 0) hN ((S.par "self" (List.Mem.head _)).elim (fun z => .inl z) (fun z => .inr (.inl z)))) rfl))), ?_⟩
    exact ⟨.ref a, rfl, a, C, dx, fs, v, rfl, ea, c, n, l, q⟩
/-- two promises of one function -/
theorem FnOk.both {P : Program} {w : World} {K : PySem.W.Frag} {mg : Str → Option Value} {base : Heap} {CX : CXT} {k : Nat} {f : Addr} {fd : FuncData} {ps : List Str} {sp sp' : Sp} (F : FnOk P w K mg base CX k f fd ps sp) (F' : FnOk P w K mg base CX k f fd ps sp') :
    FnOk P w K mg base CX k f fd ps (fun vs H Q E => sp vs H Q E ∨ sp' vs H Q E) :=
  ⟨fun vs H Q E h => h.elim (F.len vs H Q E) (F'.len vs H Q E), fun A outer s H args us vs Q E hr e0 hb r h => h.elim (F.run A outer s H args us vs Q E hr e0 hb r) (F'.run A outer s H args us vs Q E hr e0 hb r)⟩
end EX2
set_option Elab.async false
set_option linter.all false
set_option maxRecDepth 100000
set_option maxHeartbeats 1000000
/-! zip of a text and a tuple -/
namespace RZ
open PySem
open PySem.Sem (wp)
section
variable {prog : Program} {w : World} {A : Around} {E : Value → Shared → Prop} {s : Shared}
theorem zipS_next_item {z TI TO i1 i2 l1 l2 : Addr} {k1 k2 c0 : Nat} {tx : Str} {tt : Tok} {ys : Array Value} {y a b : Value} {Q : Value → Shared → Prop} (D : ZipApart z TI TO i1 i2 l1 l2)
    (hz : IsZip s.heap z TI TO .none) (hTI : IsPair s.heap TI (.ref i1) (.ref i2)) (hTO : IsPair s.heap TO a b)
    (h1 : s.heap.IsStrIter i1 "str_ascii_iterator" tx tt k1) (h2 : s.heap.IsTupleIter i2 l2 k2) (hl2 : s.heap.IsTuple l2 ys) (hx : tx.cps[k1]? = some c0) (hy : ys[k2]? = some y)
    (hQ : ∀ h', IsZip h' z TI TO (rawInt s.heap.objs.size) → IsPair h' TO (.str ⟨#[c0]⟩ s.toks) y → h'.IsStrIter i1 "str_ascii_iterator" tx tt (k1 + 1) → h'.IsTupleIter i2 l2 (k2 + 1) → IsPair h' s.heap.objs.size (.str ⟨#[c0]⟩ s.toks) y → h'.objs.size = s.heap.objs.size + 1 →
      (∀ c o, c ≠ z → c ≠ TO → c ≠ i1 → c ≠ i2 → s.heap.get? c = some o → h'.get? c = some o) → Q (.ref s.heap.objs.size) { s with heap := h', toks := s.toks + 1 }) :
    wpAny (model prog w) A (Builtin.«zip.__next__» ⟨[.ref z], []⟩) (fun fin s' => ∃ v, fin = .done (.ret v) ∧ Q v s') E s := by
  show wpAny _ _ (field (.ref z) 2 >>= _) _ _ _
  refine wpAny_bind (wpAny_field hz rfl (x := .bool false) rfl ?_)
  show wpAny _ _ (field (.ref z) 3 >>= _) _ _ _
  refine wpAny_bind (wpAny_field hz rfl (x := .ref TI) rfl ?_)
  refine wpAny_bind (wpAny_seqItems hTI rfl ?_)
  show wpAny _ _ (Builtin.SmallTypes.ownedTupleIsFree (.ref z) >>= _) _ _ _
  refine wpAny_bind ?_
  unfold Builtin.SmallTypes.ownedTupleIsFree
  refine wpAny_bind (wpAny_field hz rfl (x := .none) rfl (wpAny_pure ?_))
  simp only [if_true]
  refine wpAny_bind (wpAny_rule ?_)
  refine wpAny_bind (wpAny_field hz rfl (x := .ref TO) rfl ?_)
  refine wpAny_bind (wpAny_setField_rec hz (by simp) fun h₁ hz₁ hs₁ => ?_)
  replace hz₁ : IsZip h₁ z TI TO .ellipsis := hz₁
  refine wpAny_bind ?_
  simp only [List.zipIdx_cons, List.zipIdx_nil, List.forIn_cons, List.forIn_nil]

  refine wpAny_bind (wpAny_bind (wpAny_onRaise ?_))
  show wpAny _ _ (Builtin.SmallTypes.nextOf (.ref i1) >>= _) _ _ _
  refine wpAny_bind (wpAny_nextOf_ascii_item (h1.extBut hs₁.extBut D.i1z) hx fun h₂ h1₂ hs₂ => wpAny_pure ?_)
  have hTO₂ : IsPair h₂ TO a b := hs₂.extBut _ _ D.TOi1 (hs₁.extBut _ _ D.TOz hTO)
  refine wpAny_bind (wpAny_seqItems hTO₂ rfl ?_)
  refine wpAny_bind (wpAny_updateSeq_pair hTO₂ fun h₃ hTO₃ hs₃ => ?_)
  replace hTO₃ : IsPair h₃ TO (.str ⟨#[c0]⟩ s.toks) b := hTO₃
  refine wpAny_bind (wpAny_letGo (wpAny_pure ?_))

  refine wpAny_bind (wpAny_bind (wpAny_onRaise ?_))
  show wpAny _ _ (Builtin.SmallTypes.nextOf (.ref i2) >>= _) _ _ _
  refine wpAny_bind (nextOf_tuple_item (((h2.extBut hs₁.extBut D.i2z).extBut hs₂.extBut D.i12.symm).extBut hs₃.extBut D.TOi2.symm)
    (((hl2.extBut hs₁.extBut D.l2z).extBut hs₂.extBut D.l2i1).extBut hs₃.extBut D.l2TO) hy fun h₄ h2₄ hs₄ => wpAny_pure ?_)
  have hTO₄ : IsPair h₄ TO (.str ⟨#[c0]⟩ s.toks) b := hs₄.extBut _ _ D.TOi2 hTO₃
  refine wpAny_bind (wpAny_seqItems hTO₄ rfl ?_)
  refine wpAny_bind (wpAny_updateSeq_pair hTO₄ fun h₅ hTO₅ hs₅ => ?_)
  replace hTO₅ : IsPair h₅ TO (.str ⟨#[c0]⟩ s.toks) y := hTO₅
  refine wpAny_bind (wpAny_letGo (wpAny_pure (wpAny_pure ?_)))

  refine wpAny_bind (wpAny_seqItems hTO₅ rfl ?_)
  refine wpAny_bind (wpAny_newTuple ?_)
  have hsz : h₅.objs.size = s.heap.objs.size := by rw [hs₅.1, hs₄.1, hs₃.1, hs₂.1, hs₁.1]
  have hz₅ : IsZip h₅ z TI TO .ellipsis := hs₅.extBut _ _ D.TOz.symm (hs₄.extBut _ _ D.i2z.symm (hs₃.extBut _ _ D.TOz.symm (hs₂.extBut _ _ D.i1z.symm hz₁)))
  have hk₅ : ∀ c o, c ≠ z → c ≠ TO → c ≠ i1 → c ≠ i2 → s.heap.get? c = some o → h₅.get? c = some o := fun c o c1 c2 c3 c4 e =>
    hs₅.extBut _ _ c2 (hs₄.extBut _ _ c4 (hs₃.extBut _ _ c2 (hs₂.extBut _ _ c3 (hs₁.extBut _ _ c1 e))))
  have h1₅ : h₅.IsStrIter i1 "str_ascii_iterator" tx tt (k1 + 1) := ((h1₂.extBut hs₃.extBut D.TOi1.symm).extBut hs₄.extBut D.i12).extBut hs₅.extBut D.TOi1.symm
  have h2₅ : h₅.IsTupleIter i2 l2 (k2 + 1) := h2₄.extBut hs₅.extBut D.TOi2.symm
  have hzlt : z < h₅.objs.size := Heap.lt_size hz₅
  have hTOlt : TO < h₅.objs.size := Heap.lt_size hTO₅
  have hi1lt : i1 < h₅.objs.size := by obtain ⟨_, e, _⟩ := h1₅; exact Heap.lt_size e
  have hi2lt : i2 < h₅.objs.size := by obtain ⟨_, e, _⟩ := h2₅; exact Heap.lt_size e
  show wpAny _ _ (Builtin.SmallTypes.ownedTupleHandOut (.ref z) (.ref h₅.objs.size) >>= _) _ _ _
  refine wpAny_bind ?_
  unfold Builtin.SmallTypes.ownedTupleHandOut
  have hz₆ : IsZip (h₅.push { cls := .type "tuple", data := .seq #[.str ⟨#[c0]⟩ s.toks, y] }) z TI TO .ellipsis := Heap.get?_push_of_some _ hz₅
  refine wpAny_bind (wpAny_setField_rec hz₆ (by simp) fun h₇ hz₇ hs₇ => ?_)
  replace hz₇ : IsZip h₇ z TI TO (rawInt h₅.objs.size) := hz₇
  refine wpAny_setField_rec hz₇ (by simp) fun h₈ hz₈ hs₈ => ?_
  replace hz₈ : IsZip h₈ z TI TO (rawInt h₅.objs.size) := hz₈
  have up : ∀ c o, c ≠ z → h₅.get? c = some o → h₈.get? c = some o := fun c o c1 e => hs₈.extBut _ _ c1 (hs₇.extBut _ _ c1 (Heap.get?_push_of_some _ e))
  have hT₈ : IsPair h₈ h₅.objs.size (.str ⟨#[c0]⟩ s.toks) y := hs₈.extBut _ _ (Nat.ne_of_gt hzlt) (hs₇.extBut _ _ (Nat.ne_of_gt hzlt) (Heap.get?_push_size _ rfl))
  have hz8 : h₈.objs.size = h₅.objs.size + 1 := by rw [hs₈.1, hs₇.1, Heap.size_push]
  rw [hsz] at hz₈ hT₈ hz8
  refine wpAny_pure ⟨_, rfl, ?_⟩
  show Q (.ref h₅.objs.size) _
  rw [hsz]
  exact hQ h₈ hz₈ (up _ _ D.TOz hTO₅) (let ⟨o, ho, r⟩ := h1₅; ⟨o, up _ o D.i1z ho, r⟩) (h2₅.at fun o e => up _ o D.i2z e) hT₈ hz8 fun c o c1 c2 c3 c4 e => up c o c1 (hk₅ c o c1 c2 c3 c4 e)

theorem zipS_next_end {z TI TO i1 i2 l1 l2 : Addr} {k1 k2 : Nat} {tx : Str} {tt : Tok} {ys : Array Value} {a b : Value} {Q : Fin → Shared → Prop} (hh : A.handled = none) (D : ZipApart z TI TO i1 i2 l1 l2)
    (hz : IsZip s.heap z TI TO .none) (hTI : IsPair s.heap TI (.ref i1) (.ref i2)) (hTO : IsPair s.heap TO a b)
    (h1 : s.heap.IsStrIter i1 "str_ascii_iterator" tx tt k1) (h2 : s.heap.IsTupleIter i2 l2 k2) (hl2 : s.heap.IsTuple l2 ys) (hend : tx.cps[k1]? = none ∨ ys[k2]? = none)
    (hE : ∀ h' e tk, (∀ c o, c ≠ z → c ≠ TO → c ≠ i1 → c ≠ i2 → s.heap.get? c = some o → h'.get? c = some o) → (∃ o, h'.get? e = some o ∧ o.cls = .type "StopIteration") → E (.ref e) { s with heap := h', toks := tk }) :
    wpAny (model prog w) A (Builtin.«zip.__next__» ⟨[.ref z], []⟩) Q E s := by
  show wpAny _ _ (field (.ref z) 2 >>= _) _ _ _
  refine wpAny_bind (wpAny_field hz rfl (x := .bool false) rfl ?_)
  show wpAny _ _ (field (.ref z) 3 >>= _) _ _ _
  refine wpAny_bind (wpAny_field hz rfl (x := .ref TI) rfl ?_)
  refine wpAny_bind (wpAny_seqItems hTI rfl ?_)
  show wpAny _ _ (Builtin.SmallTypes.ownedTupleIsFree (.ref z) >>= _) _ _ _
  refine wpAny_bind ?_
  unfold Builtin.SmallTypes.ownedTupleIsFree
  refine wpAny_bind (wpAny_field hz rfl (x := .none) rfl (wpAny_pure ?_))
  simp only [if_true]
  refine wpAny_bind (wpAny_rule ?_)
  refine wpAny_bind (wpAny_field hz rfl (x := .ref TO) rfl ?_)
  refine wpAny_bind (wpAny_setField_rec hz (by simp) fun h₁ hz₁ hs₁ => ?_)
  replace hz₁ : IsZip h₁ z TI TO .ellipsis := hz₁
  refine wpAny_bind ?_
  simp only [List.zipIdx_cons, List.zipIdx_nil, List.forIn_cons, List.forIn_nil]
  refine wpAny_bind (wpAny_bind (wpAny_onRaise ?_))
  show wpAny _ _ (Builtin.SmallTypes.nextOf (.ref i1) >>= _) _ _ _
  cases hx : tx.cps[k1]? with
  | none =>
    refine wpAny_bind (wpAny_nextOf_ascii_end hh (h1.extBut hs₁.extBut D.i1z) hx fun h₂ e hs₂ he => ?_)
    obtain ⟨oe, hoe, hce⟩ := he
    have hz₂ : IsZip h₂ z TI TO .ellipsis := hs₂ _ _ D.i1z.symm hz₁
    have hez : e ≠ z := fun x => by subst x; rw [hz₂] at hoe; cases hoe; simp at hce
    refine wpAny_setField_rec hz₂ (by simp) fun h₃ _ hs₃ => hE h₃ e _ (fun c o c1 _ c3 _ x => hs₃.extBut _ _ c1 (hs₂ _ _ c3 (hs₁.extBut _ _ c1 x))) ⟨oe, hs₃.extBut _ _ hez hoe, hce⟩
  | some c0 =>
    have hy : ys[k2]? = none := by rcases hend with h | h; rw [hx] at h; cases h; exact h
    refine wpAny_bind (wpAny_nextOf_ascii_item (h1.extBut hs₁.extBut D.i1z) hx fun h₂ h1₂ hs₂ => wpAny_pure ?_)
    have hTO₂ : IsPair h₂ TO a b := hs₂.extBut _ _ D.TOi1 (hs₁.extBut _ _ D.TOz hTO)
    refine wpAny_bind (wpAny_seqItems hTO₂ rfl ?_)
    refine wpAny_bind (wpAny_updateSeq_pair hTO₂ fun h₃ hTO₃ hs₃ => ?_)
    refine wpAny_bind (wpAny_letGo (wpAny_pure ?_))
    refine wpAny_bind (wpAny_bind (wpAny_onRaise ?_))
    show wpAny _ _ (Builtin.SmallTypes.nextOf (.ref i2) >>= _) _ _ _
    refine wpAny_bind (nextOf_tuple_end hh (((h2.extBut hs₁.extBut D.i2z).extBut hs₂.extBut D.i12.symm).extBut hs₃.extBut D.TOi2.symm)
      (((hl2.extBut hs₁.extBut D.l2z).extBut hs₂.extBut D.l2i1).extBut hs₃.extBut D.l2TO) hy fun h₄ e hs₄ he => ?_)
    obtain ⟨oe, hoe, hce⟩ := he
    have hz₄ : IsZip h₄ z TI TO .ellipsis := hs₄ _ _ D.i2z.symm (hs₃.extBut _ _ D.TOz.symm (hs₂.extBut _ _ D.i1z.symm hz₁))
    have hez : e ≠ z := fun x => by subst x; rw [hz₄] at hoe; cases hoe; simp at hce
    refine wpAny_setField_rec hz₄ (by simp) fun h₅ _ hs₅ => hE h₅ e _ (fun c o c1 c2 c3 c4 x => hs₅.extBut _ _ c1 (hs₄ _ _ c4 (hs₃.extBut _ _ c2 (hs₂.extBut _ _ c3 (hs₁.extBut _ _ c1 x))))) ⟨oe, hs₅.extBut _ _ hez hoe, hce⟩

theorem pyNext_zipS_item {z TI TO i1 i2 l1 l2 : Addr} {k1 k2 c0 : Nat} {tx : Str} {tt : Tok} {ys : Array Value} {y a b : Value} {Q : Option Value → Shared → Prop} (D : ZipApart z TI TO i1 i2 l1 l2)
    (hz : IsZip s.heap z TI TO .none) (hTI : IsPair s.heap TI (.ref i1) (.ref i2)) (hTO : IsPair s.heap TO a b)
    (h1 : s.heap.IsStrIter i1 "str_ascii_iterator" tx tt k1) (h2 : s.heap.IsTupleIter i2 l2 k2) (hl2 : s.heap.IsTuple l2 ys) (hx : tx.cps[k1]? = some c0) (hy : ys[k2]? = some y)
    (hQ : ∀ h', IsZip h' z TI TO (rawInt s.heap.objs.size) → IsPair h' TO (.str ⟨#[c0]⟩ s.toks) y → h'.IsStrIter i1 "str_ascii_iterator" tx tt (k1 + 1) → h'.IsTupleIter i2 l2 (k2 + 1) → IsPair h' s.heap.objs.size (.str ⟨#[c0]⟩ s.toks) y → h'.objs.size = s.heap.objs.size + 1 →
      (∀ c o, c ≠ z → c ≠ TO → c ≠ i1 → c ≠ i2 → s.heap.get? c = some o → h'.get? c = some o) → Q (some (.ref s.heap.objs.size)) { s with heap := h', toks := s.toks + 1 }) :
    wpAny (model prog w) A (pyNext (.ref z)) Q E s := by
  have hT : s.TypeIs (.ref z) "zip" := ⟨_, hz, rfl⟩
  unfold pyNext
  exact wpAny_bind (wpAny_attempt (wpAny_callSpecial?_slot (name := Str.ofString "__next__") hT F.slot_zip_next
    (wpAny_call_entry F.slot_zip_next hT F.entry_zip_next
      (zipS_next_item D hz hTI hTO h1 h2 hl2 hx hy fun h' a1 a2 a3 a4 a5 a6 a7 => wpAny_pure (hQ h' a1 a2 a3 a4 a5 a6 a7)) (F.args_zip_next_1 _))))

theorem pyNext_zipS_end {z TI TO i1 i2 l1 l2 : Addr} {k1 k2 : Nat} {tx : Str} {tt : Tok} {ys : Array Value} {a b : Value} {Q : Option Value → Shared → Prop} (hh : A.handled = none) (D : ZipApart z TI TO i1 i2 l1 l2)
    (hz : IsZip s.heap z TI TO .none) (hTI : IsPair s.heap TI (.ref i1) (.ref i2)) (hTO : IsPair s.heap TO a b)
    (h1 : s.heap.IsStrIter i1 "str_ascii_iterator" tx tt k1) (h2 : s.heap.IsTupleIter i2 l2 k2) (hl2 : s.heap.IsTuple l2 ys) (hend : tx.cps[k1]? = none ∨ ys[k2]? = none)
    (hQ : ∀ h' tk, (∀ c o, c ≠ z → c ≠ TO → c ≠ i1 → c ≠ i2 → s.heap.get? c = some o → h'.get? c = some o) → Q none { s with heap := h', toks := tk }) : wpAny (model prog w) A (pyNext (.ref z)) Q E s := by
  have hT : s.TypeIs (.ref z) "zip" := ⟨_, hz, rfl⟩
  unfold pyNext
  refine wpAny_bind (wpAny_attempt (wpAny_callSpecial?_slot (name := Str.ofString "__next__") hT F.slot_zip_next
    (wpAny_call_entry F.slot_zip_next hT F.entry_zip_next (zipS_next_end hh D hz hTI hTO h1 h2 hl2 hend fun h' e tk hk he => ?_) (F.args_zip_next_1 _))))
  obtain ⟨o, ho, hc⟩ := he
  refine wpAny_bind (wpAny_isInstance (T := "StopIteration") (b := true) ⟨o, ho, hc⟩ isSubtype_stop ?_)
  exact wpAny_pure (hQ _ _ hk)
end


abbrev zipSH1 (h : Heap) (tx : Str) (tt : Tok) : Heap := h.push { cls := .type "str_ascii_iterator", data := .fields #[.str tx tt, .int 0 0] }
abbrev zipSH2 (h : Heap) (tx : Str) (tt : Tok) (l2 : Addr) : Heap := (zipSH1 h tx tt).push { cls := .type "tuple_iterator", data := .fields #[.ref l2, .int 0 0] }
abbrev zipSH3 (h : Heap) (tx : Str) (tt : Tok) (l2 : Addr) : Heap := (zipSH2 h tx tt l2).push { cls := .type "tuple", data := .seq #[.ref h.objs.size, .ref (zipSH1 h tx tt).objs.size] }
abbrev zipSH4 (h : Heap) (tx : Str) (tt : Tok) (l2 : Addr) : Heap := (zipSH3 h tx tt l2).push { cls := .type "tuple", data := .seq #[.none, .none] }
abbrev zipSH5 (h : Heap) (tx : Str) (tt : Tok) (l2 : Addr) : Heap := (zipSH4 h tx tt l2).push { cls := .type "zip", data := .fields #[.none, .bool false, .bool false, .ref (zipSH2 h tx tt l2).objs.size, .ref (zipSH3 h tx tt l2).objs.size] }
theorem meets_zipS_new (tx : Str) (tt : Tok) (l2 : Addr) (ys : Array Value) (ha : tx.cps.all (· < 128) = true) :
    Meets (Builtin.«zip.__new__» ⟨[.type "zip", .str tx tt, .ref l2], []⟩) (fun _ R s => s.heap.IsTuple l2 ys ∧
      R (.ok (.ret (.ref (zipSH4 s.heap tx tt l2).objs.size))) { s with heap := zipSH5 s.heap tx tt l2 }) :=
  .of_wp fun prog w A R s h => by
    obtain ⟨hp, g, d, tk, os⟩ := s; obtain ⟨hl2, h⟩ := h
    have hsub := sub_zip
    have hL2 : Heap.IsTuple (Shared.heap ⟨hp.push { cls := .type "str_ascii_iterator", data := .fields #[.str tx tt, .int 0 0] }, g, d, tk, os⟩) l2 ys := Heap.IsTuple.push hl2 _
    wp_walk using wpAny_pyIter_ascii ha, wpAny_pyIter_tuple hL2
    exact ⟨_, rfl, h⟩
section
variable {prog : Program} {w : World} {A : Around} {E : Value → Shared → Prop} {s : Shared}
theorem call_zipS {tx : Str} {tt : Tok} {l2 : Addr} {ys : Array Value} {Q : Value → Shared → Prop} (ha : tx.cps.all (· < 128) = true) (hl2 : s.heap.IsTuple l2 ys)
    (h : ∀ h', IsZip h' (s.heap.objs.size + 4) (s.heap.objs.size + 2) (s.heap.objs.size + 3) .none → IsPair h' (s.heap.objs.size + 2) (.ref s.heap.objs.size) (.ref (s.heap.objs.size + 1)) →
      IsPair h' (s.heap.objs.size + 3) .none .none → h'.IsStrIter s.heap.objs.size "str_ascii_iterator" tx tt 0 → h'.IsTupleIter (s.heap.objs.size + 1) l2 0 → h'.objs.size = s.heap.objs.size + 5 →
      (∀ c o, s.heap.get? c = some o → h'.get? c = some o) → Q (.ref (s.heap.objs.size + 4)) { s with heap := h' }) :
    wpAny (model prog w) A (call (.type "zip") [.str tx tt, .ref l2]) Q E s := by
  refine callType_new F.called_zip (by decide) (F.typeCall_zip_2 _ _) (F.newCall_zip_2 _ _) (fun obj => F.args_object_init_3 obj _ _) F.entry_zip_new
    (meets_zipS_new tx tt l2 ys ha) ⟨hl2, ?_⟩
  have z1 : (zipSH1 s.heap tx tt).objs.size = s.heap.objs.size + 1 := Heap.size_push ..
  have z2 : (zipSH2 s.heap tx tt l2).objs.size = s.heap.objs.size + 2 := by rw [Heap.size_push, z1]
  have z3 : (zipSH3 s.heap tx tt l2).objs.size = s.heap.objs.size + 3 := by rw [Heap.size_push, z2]
  have z4 : (zipSH4 s.heap tx tt l2).objs.size = s.heap.objs.size + 4 := by rw [Heap.size_push, z3]
  have z5 : (zipSH5 s.heap tx tt l2).objs.size = s.heap.objs.size + 5 := by rw [Heap.size_push, z4]
  have g5 : (zipSH5 s.heap tx tt l2).get? (zipSH4 s.heap tx tt l2).objs.size = some _ := Heap.get?_push_size _ rfl
  have g4 : (zipSH5 s.heap tx tt l2).get? (zipSH3 s.heap tx tt l2).objs.size = some _ := Heap.get?_push_of_some _ (Heap.get?_push_size _ rfl)
  have g3 : (zipSH5 s.heap tx tt l2).get? (zipSH2 s.heap tx tt l2).objs.size = some _ := Heap.get?_push_of_some _ (Heap.get?_push_of_some _ (Heap.get?_push_size _ rfl))
  have g2 : (zipSH5 s.heap tx tt l2).get? (zipSH1 s.heap tx tt).objs.size = some _ := Heap.get?_push_of_some _ (Heap.get?_push_of_some _ (Heap.get?_push_of_some _ (Heap.get?_push_size _ rfl)))
  have g1 : (zipSH5 s.heap tx tt l2).get? s.heap.objs.size = some _ := Heap.get?_push_of_some _ (Heap.get?_push_of_some _ (Heap.get?_push_of_some _ (Heap.get?_push_of_some _ (Heap.get?_push_size _ rfl))))
  show _ ∧ _
  rw [z2, z3, z4] at g5
  rw [z1, z2] at g3
  rw [z3] at g4
  rw [z1] at g2
  rw [z4]
  exact ⟨⟨_, g5, rfl⟩, h _ g5 g3 g4 ⟨_, g1, rfl, rfl⟩ ⟨_, g2, rfl, rfl⟩ z5 fun c o x =>
    Heap.get?_push_of_some _ (Heap.get?_push_of_some _ (Heap.get?_push_of_some _ (Heap.get?_push_of_some _ (Heap.get?_push_of_some _ x))))⟩
end
end RZ
set_option Elab.async false
set_option linter.all false
set_option maxRecDepth 100000
set_option maxHeartbeats 1000000
namespace ZS
open PySem PySem.Spec PyProof.Rows L2
/-- a text's signs and the items of the tuple at b, in new pairs -/
def Itzs (K : PySem.W.Frag) (z : Str) (b : Addr) : It :=
  ⟨fun i H => ∃ (ys : List V) (c : Nat) (y : V), SqT K H b ys ∧ z.cps[i]? = some c ∧ ys[i]? = some y,
    fun i H v H' => ∃ T c y, v = .ref T ∧ H T = none ∧ H' = upd H T (.tup [.str ⟨#[c]⟩, y]) ∧ z.cps[i]? = some c ∧ ∀ ys, SqT K H b ys → ys[i]? = some y,
    fun i H => ∃ ys : List V, SqT K H b ys ∧ (z.cps.size ≤ i ∨ ys.length ≤ i)⟩
theorem turn_zipS {P : Program} {w : World} {K : PySem.W.Frag} {elts : List Expr} {kk : Nat} {tpos : Pos} {tx : Str} {tt : Tok} {a b z TI TO i1 i2 : Addr} (D : ZipApart z TI TO i1 i2 a b) :
    Turn P w K (.Tuple elts kk tpos) (Itzs K tx b) [z, TI, TO, i1, i2] z (fun i h => IsZip h z TI TO .none ∧ IsPair h TI (.ref i1) (.ref i2) ∧ (∃ x y, IsPair h TO x y) ∧ h.IsStrIter i1 "str_ascii_iterator" tx tt i ∧ h.IsTupleIter i2 b i) where
  mem := by simp
  obj := fun i h st c hc => by
    obtain ⟨hz, hTI, ⟨x, y, hTO⟩, ⟨o1, e1, _, d1⟩, ⟨o2, e2, _, d2⟩⟩ := st
    rcases (show c = z ∨ c = TI ∨ c = TO ∨ c = i1 ∨ c = i2 by simpa using hc) with rfl | rfl | rfl | rfl | rfl
    · exact ⟨_, hz, fun v q => nomatch q⟩
    · exact ⟨_, hTI, fun v q => nomatch q⟩
    · exact ⟨_, hTO, fun v q => nomatch q⟩
    · exact ⟨o1, e1, fun v q => by rw [d1] at q; cases q⟩
    · exact ⟨o2, e2, fun v q => by rw [d2] at q; cases q⟩
  keep := fun i h h' st k => by
    obtain ⟨hz, hTI, ⟨x, y, hTO⟩, ⟨o1, e1, r1⟩, h2⟩ := st
    exact ⟨k z (by simp) _ hz, k TI (by simp) _ hTI, ⟨x, y, k TO (by simp) _ hTO⟩, ⟨o1, k i1 (by simp) _ e1, r1⟩, h2.at fun o q => k i2 (by simp) o q⟩
  item := by
    intro X hP hw hK hc i pins s σ H E I hf st hg
    subst hP hw hK
    obtain ⟨hz, hTI, ⟨x0, y0, hTO⟩, h1, h2⟩ := st
    obtain ⟨ys, c, y, hqy, hx, hy⟩ := hg
    obtain ⟨its2, rv2, p2, _⟩ := I.tuple hqy
    obtain ⟨u2, hu2, ru2⟩ := rv2.get hy
    have hzl : z < s.heap.objs.size := Heap.lt_size hz
    refine RZ.pyNext_zipS_item D hz hTI hTO h1 h2 p2 (c0 := c) (y := u2) hx (by simpa using hu2) fun h' z' TO' h1' h2' hT hsz hk => ?_
    refine ⟨_, rfl, wpAny_letOwnedTupleGo_zip (s := { s with heap := h', toks := s.toks + 1 }) z' fun h'' z'' sb => ?_⟩
    have hT2 : h''.get? s.heap.objs.size = some { cls := .type "tuple", data := .seq #[.str ⟨#[c]⟩ s.toks, u2] } := (sb.2 _ (Nat.ne_of_gt hzl)).trans hT
    have new : ObjOk X.prog X.w (upd H s.heap.objs.size (.tup [.str ⟨#[c]⟩, y])) h'' s.heap.objs.size (.tup [.str ⟨#[c]⟩, y]) :=
      ⟨by show 2 ≤ sizeLine; decide, [.str ⟨#[c]⟩ s.toks, u2], .cons ⟨_, rfl⟩ (.cons ru2 .nil), ⟨_, hT2, rfl, _, rfl⟩⟩
    have I1 : Inv X pins σ (upd H s.heap.objs.size (.tup [.str ⟨#[c]⟩, y])) { s with heap := h'', toks := s.toks + 1 } :=
      I.turnedNew (t' := s.toks + 1) (ch := [z, TI, TO, i1, i2]) (fun c o hb q => (sb.2 c (fun q' => hb (by simp [q']))).trans (hk c o (fun q' => hb (by simp [q'])) (fun q' => hb (by simp [q'])) (fun q' => hb (by simp [q'])) (fun q' => hb (by simp [q'])) q)) hf (Nat.le_refl _) new
    refine ⟨.ref s.heap.objs.size, _, I1, rfl, ⟨_, c, y, rfl, I.hok.fresh (Nat.le_refl _), rfl, hx, fun l hl => by rw [I.tuple_inj hl hqy]; exact hy⟩, ⟨z'', ?_, ⟨.str ⟨#[c]⟩ s.toks, u2, ?_⟩, ?_, ?_⟩, fun d hcm => ?_⟩
    · exact (sb.2 _ D.TIz).trans (hk _ _ D.TIz D.TITO D.TIi1 D.TIi2 hTI)
    · exact (sb.2 _ D.TOz).trans TO'
    · obtain ⟨o1, e1, r1⟩ := h1'
      exact ⟨o1, (sb.2 _ D.i1z).trans e1, r1⟩
    · exact h2'.at fun o q => (sb.2 _ D.i2z).trans q
    · have hlt : d < s.heap.objs.size := by
        rcases (show d = z ∨ d = TI ∨ d = TO ∨ d = i1 ∨ d = i2 by simpa using hcm) with rfl | rfl | rfl | rfl | rfl
        · exact hzl
        · exact Heap.lt_size hTI
        · exact Heap.lt_size hTO
        · obtain ⟨_, e1, _⟩ := h1; exact Heap.lt_size e1
        · obtain ⟨_, e2, _⟩ := h2; exact Heap.lt_size e2
      rw [upd_ne (Nat.ne_of_lt hlt)]
      exact (hf d hcm).1
  done := by
    intro X hP hw hK hc i pins s σ H E I hf st hg
    subst hP hw hK
    obtain ⟨hz, hTI, ⟨x0, y0, hTO⟩, h1, h2⟩ := st
    obtain ⟨ys, hqy, hend⟩ := hg
    obtain ⟨its2, rv2, p2, _⟩ := I.tuple hqy
    have l2 := rv2.length
    have he : tx.cps[i]? = none ∨ its2.toArray[i]? = none := by
      rcases hend with q | q
      · exact .inl (Array.getElem?_eq_none q)
      · exact .inr (by simp; omega)
    exact RZ.pyNext_zipS_end (I.ok.hd hc) D hz hTI hTO h1 h2 p2 he fun h' tk hk => ⟨rfl, I.turnedL (t' := tk) (ch := [z, TI, TO, i1, i2]) (fun c o hb q =>
      hk c o (fun q' => hb (by simp [q'])) (fun q' => hb (by simp [q'])) (fun q' => hb (by simp [q'])) (fun q' => hb (by simp [q'])) q) hf⟩
  self := fun A i s Q E st h => wpAny_pyIter_zip st.1 h
def iZipS (K : PySem.W.Frag) (ta : TA) : TI := fun σ H R => ta σ H fun vs H1 => ∃ (z : Str) (b : Addr) (ys : List V), vs = [.str z, .ref b] ∧ z.cps.all (· < 128) = true ∧ SqT K H1 b ys ∧ R (Itzs K z b) H1
theorem pi_zipS {X : Cx} {e e2 : Expr} {ta : TA} {p pos tpos : Pos} {elts : List Expr} {kk : Nat} (hg : Gl X "zip") (hm : X.mg "zip" = none) (ha : PA X [e, e2] ta)
    (hs : starEach [e, e2] X.env = (false, eval e X.env) :: starEach [e2] X.env := by rfl) (hpl : (backTo pos (starEach [e2] X.env)).any (·.1) = false := by rfl) :
    PI X (.Tuple elts kk tpos) (.Call (.Name "zip" p) [e, e2] [] pos) (iZipS X.K ta) := by
  refine ⟨fun pins s σ H R I h => ?_⟩
  refine Call_ (ld_blt I hg hm PyProof.Rows.boot_zip (PyProof.Rows.callWith_type1 (thn (ha.run pos pins s σ H _ I h) fun us s1 ⟨vs, H1, I1, r1, q1⟩ => ?_) hs hpl))
  obtain ⟨z, b, ys, ex, hz, hqy, q⟩ := q1
  subst ex
  obtain ⟨u1, u2, rfl, ⟨tt, rfl⟩, rb⟩ := vals2 r1
  obtain rfl : u2 = Value.ref b := rb
  obtain ⟨its2, rv2, p2, _⟩ := I1.tuple hqy
  obtain ⟨o2, ho2, _⟩ := id p2
  have fresh5 : ∀ c, c ∈ [s1.heap.objs.size + 4, s1.heap.objs.size + 2, s1.heap.objs.size + 3, s1.heap.objs.size, s1.heap.objs.size + 1] → FpOk X pins H1 c := fun c hcm => by
    have hle : s1.heap.objs.size ≤ c := by
      simp only [List.mem_cons, List.not_mem_nil, or_false] at hcm
      omega
    exact I1.fpOk hle (I1.hok.fresh hle)
  refine RZ.call_zipS hz (show s1.heap.IsTuple b its2.toArray from p2) fun h' hzp hTI hTO h1 h2 hsz hk => wpAny_pyIter_zip hzp ?_
  have I2 : Inv X pins σ H1 { s1 with heap := h' } := I1.kept (t' := s1.toks) hk
  exact ⟨s1.heap.objs.size + 4, [s1.heap.objs.size + 4, s1.heap.objs.size + 2, s1.heap.objs.size + 3, s1.heap.objs.size, s1.heap.objs.size + 1], _, _, H1, rfl, I2, turn_zipS (PySem.W.ktu_apart s1.heap.objs.size b b (Heap.lt_size ho2) (Heap.lt_size ho2)), ⟨hzp, hTI, ⟨_, _, hTO⟩, h1, h2⟩, fresh5, q⟩
theorem walk_zipS {K : PySem.W.Frag} {z : Str} {b : Addr} {ys : List V} {n : Nat} (hn : n = min z.cps.size ys.length) : Walk (Itzs K z b) n (fun H => SqT K H b ys) (YPair (fun i => z.cps[i]?.map fun c => .str ⟨#[c]⟩) (fun i => ys[i]?)) := by
  subst hn
  refine ⟨fun i _ hi q => ?_, fun _ q => ⟨ys, q, by omega⟩, fun i H v H' _ q y => ?_⟩
  · have h1 : i < z.cps.size := by omega
    have h2 : i < ys.length := by omega
    exact ⟨ys, z.cps[i], ys[i], q, by simp [h1], by simp [h2]⟩
  · obtain ⟨T, c, y, h1, h2, h3, h4, h5⟩ := y
    exact ⟨T, .str ⟨#[c]⟩, y, h1, h2, h3, by simp [h4], h5 ys q⟩
end ZS
set_option Elab.async false
set_option linter.all false
set_option maxRecDepth 100000
set_option maxHeartbeats 0
namespace K03
open PySem PySem.Spec PyProof.Rows L2
abbrev RW : PySem.W.OpenLaw := PySem.Challenge.rw_lateclasses_k03_methods_made
def top (i : Nat) : Stmt := PySem.Challenge.pw_lateclasses_k03_methods_made.main.body.getD i (.Pass ⟨0, 0, 0, 0⟩)
def dfn (x : Str) (i : Nat) : He.DefD := ⟨(x, none), x, x, defArgs (top i), defBody (top i), defScope (top i), [], []⟩
def mth (c m q : Str) (i j : Nat) : He.DefD := ⟨(c, some m), m, q, defArgs (inClass (top i) j), defBody (inClass (top i) j), defScope (inClass (top i) j), [], []⟩
def fn : List He.DefD := [dfn "is_integer" 5, dfn "is_in_range" 6, dfn "is_name" 7, dfn "is_type" 8, dfn "is_sequence" 9, dfn "fits" 15, dfn "is_instruction" 16, dfn "drawers_in" 17, dfn "targets_in" 18, dfn "is_code" 19, dfn "is_size" 20,
  dfn "_law_source" 23, dfn "_law_draw" 24, dfn "_law_pick" 25, dfn "_law_type" 26, dfn "_law_call" 27, dfn "_law_made" 28, dfn "_law_ready" 29, dfn "_law_method" 30, dfn "_law_refused" 31, dfn "_law_codes" 32, dfn "_law_wrongs" 33, dfn "_law_others_right" 34, dfn "law" 35,
  mth "Method" "__init__" "Method.__init__" 21 0, mth "Method" "parts" "Method.parts" 21 6, mth "Method" "__eq__" "Method.__eq__" 21 7]
def fns : List Str := ["is_integer", "is_in_range", "is_name", "is_type", "is_sequence", "fits", "is_instruction", "drawers_in", "targets_in", "is_code", "is_size", "_law_source", "_law_draw", "_law_pick", "_law_type", "_law_call", "_law_made", "_law_ready", "_law_method", "_law_refused", "_law_codes", "_law_wrongs", "_law_others_right"]
def fa : List He.Fa := [.str "LETTERS" "abcdefghijklmnopqrstuvwxyz", .int "MOST_CODE" 40, .int "MOST_SIZE" 10, .int "MOST_PARAMS" 4, .glo "FORMS", .glo "Method", .glo "law", .mkr "Method", .cls "Method", .noat "Method" "own_name", .noat "Method" "own_params", .noat "Method" "own_result", .noat "Method" "own_size", .noat "Method" "own_code"] ++
  (fns.map He.Fa.glo) ++ [.free "isinstance", .free "len", .free "all", .free "any", .free "int", .free "bool", .free "str", .free "list", .free "tuple", .free "zip", .free "range", .free "max", .free "min", .free "repr", .free "super", .glo "InvalidMethod", .glo "ClassError", .meth "Method" "parts", .meth "Method" "__eq__"]
def forms : List (Str × Str) := [("new", "rc"), ("array", "rcn"), ("null", "r"), ("move", "rr"), ("get", "rrcft"), ("put", "rcftr"), ("call", "rrcfytx"), ("ask", "rrcfytx"), ("cast", "rrc"), ("load", "rrn"), ("store", "rnr"), ("jump", "j"), ("ifnull", "rj"), ("ifis", "rcj"), ("choose", "j"), ("tell", "r"), ("return", "r")]
def ts : List He.Tab := [(fun K => He.ga K "FORMS", forms.map (·.1))]
def pd (f q : Str) (j : Nat) : EX2.PD := ⟨EX2.prG "Method" f, f, q, inClass (top 21) j⟩
def pds : List EX2.PD := [pd "name" "Method.name" 1, pd "params" "Method.params" 2, pd "result" "Method.result" 3, pd "size" "Method.size" 4, pd "code" "Method.code" 5]
def sd (c q : Str) (i : Nat) (fl : List Str) : EX2.SuD := ⟨c, q, inClass (top i) 0, fl⟩
def xs : List EX2.SuD := [sd "InvalidMethod" "InvalidMethod.__init__" 2 ["given"]]
def insB (K : PySem.W.Frag) : Bool := He.eqO (PySem.W.findIn K (.ref (He.ga K "Method")) "__class__") (some (some (.builtin "object.__class__"))) && (decide (PySem.W.mroIn K (He.ga K "Method") (.type "object") = some true) && decide (PySem.W.kitOne K (.type "list") (.ref (He.ga K "Method")) = some false))
def ex (K : PySem.W.Frag) : Bool := EX2.tabOfB K (He.ga K "FORMS") forms && ((["name", "params", "result", "size", "code"] : List Str).all (EX2.propB K "Method") && (EX2.sudB PySem.Challenge.pw_lateclasses_k03_methods_made.main.file K "ClassError" xs &&
  (decide (((["ClassError", "InvalidMethod"] : List Str).map (He.ga K)).Nodup) && ((PySem.W.clsIn K (He.ga K "ClassError")).isSome && PySem.W.typeIn K (.ref (He.ga K "ClassError")) == some (.type "type"))) && insB K))
abbrev R : PySem.W.OpenRow := PySem.W.OpenLaw.row RW
abbrev hk : PySem.W.Hook := EX2.hookZ 5 fa fn ts xs pds ex
def ob (s : PySem.W.SharedT) : EX2.AlZ := EX2.obsZ 5 fa fn ts xs pds ex (HandSHeadRun.getT s)
theorem ob_eq (s : PySem.W.SharedT) : ob s = hk.obs s.abs := EX2.obsZ_eq (HandSHeadRun.getT_eq s)
def loose : List PySem.Str := ([("ClassError" : PySem.Str), ("InvalidMethod" : PySem.Str), ("LETTERS" : PySem.Str), ("FORMS" : PySem.Str), ("MOST_CODE" : PySem.Str), ("MOST_SIZE" : PySem.Str), ("MOST_PARAMS" : PySem.Str), ("Method" : PySem.Str)] : List PySem.Str) ++ fns
theorem runF (w : World) : HandSHeadRun.RunEq R (PySem.W.view R.prog [35]) hk ob 6000 loose (w.withFollow "special-get-raises" false) := by
  intro os
  kernel_rfl
theorem runT (w : World) : HandSHeadRun.RunEq R (PySem.W.view R.prog [35]) hk ob 6000 loose (w.withFollow "special-get-raises" true) := by
  intro os
  kernel_rfl
theorem run (w : World) : HandSHeadRun.RunEq R (PySem.W.view R.prog [35]) hk ob 6000 loose w := PySem.W.byRow2 "special-get-raises" runF runT w
end K03
set_option Elab.async false
set_option linter.all false
set_option maxRecDepth 100000
set_option maxHeartbeats 0
namespace K03
open PySem PySem.Spec PyProof.Rows L2
abbrev FnP (K : PySem.W.Frag) (x : Str) (st : Stmt) (f : Addr) (fd : FuncData) : Prop := FunD K x x (defArgs st) (defBody st) (defScope st) [] [] f fd
/-- the globals that stay free -/
structure Txt (K : PySem.W.Frag) (mg : Str → Option Value) : Prop where
  isi : mg "isinstance" = none
  len : mg "len" = none
  all : mg "all" = none
  str : mg "str" = none
  max : mg "max" = none
  min : mg "min" = none
  int : mg "int" = none
  rng : mg "range" = none
  tup : mg "tuple" = none
  any : mg "any" = none
  bl : mg "bool" = none
  lst : mg "list" = none
  zip : mg "zip" = none
abbrev sSource : Stmt := top 23
abbrev sDraw : Stmt := top 24
abbrev nSource : List Str := ["_law_script", "_law_turn", "_law_cell", "_law_number", "_law_seed"]
abbrev nDraw : List Str := ["_law_source_here", "_law_amount", "_law_digit"]
def rS : Int := 2147483647
/-- what a source holds -/
def Src (H : Hp) (p : Addr) : Prop := ∃ N S : Int, H p = some (.lst [.int N, .int S]) ∧ 0 ≤ N ∧ 0 ≤ S ∧ S < 2147483647
def spSource (K : PySem.W.Frag) : Sp := fun vs H Q _ => ∃ (a : Addr) (ns : List Int) (t : Int), vs = [.ref a, .int t] ∧ SqL K H a (ns.map V.int) ∧ 0 ≤ t ∧ t < 100 ∧
  ∀ p N S, H p = none → 0 ≤ N → 0 ≤ S → S < 2147483647 → Q (.ref p) (upd H p (.lst [.int N, .int S]))
def spDraw : Sp := fun vs H Q _ => ∃ (p : Addr) (N S m : Int), vs = [.ref p, .int m] ∧ H p = some (.lst [.int N, .int S]) ∧ 0 ≤ N ∧ 0 ≤ S ∧ S < 2147483647 ∧ 0 < m ∧ m < 1073741824 ∧
  ∀ d N' S', 0 ≤ d → d < m → 0 ≤ N' → 0 ≤ S' → S' < 2147483647 → Q (.int d) (upd H p (.lst [.int N', .int S']))
section
variable {P : Program} {w : World} {K : PySem.W.Frag} {mg : Str → Option Value} {base : Heap} {f : Addr} {fd : FuncData}
theorem scSource : FnScope nSource ["_law_script", "_law_turn"] (defScope sSource) := ⟨rfl, rfl, rfl, by decide +kernel, rfl, by decide +kernel, by decide +kernel⟩
theorem scDraw : FnScope nDraw ["_law_source_here", "_law_amount"] (defScope sDraw) := ⟨rfl, rfl, rfl, by decide +kernel, rfl, by decide +kernel, by decide +kernel⟩
theorem boot_len : bootBuiltins "len" = some (.builtin "len") := by kernel_rfl
theorem boot_max : bootBuiltins "max" = some (.builtin "max") := by kernel_rfl
theorem boot_int : bootBuiltins "int" = some (.type "int") := by kernel_rfl
theorem atI_int {ns : List Int} {t : Int} (h0 : 0 ≤ t) (h1 : t < (ns.map V.int).length) : ∃ c, L2.atI (ns.map V.int) t = some (.int c) := by
  obtain ⟨k, rfl⟩ := Int.eq_ofNat_of_zero_le h0
  have hk : k < ns.length := by rw [List.length_map] at h1; exact Int.ofNat_lt.mp h1
  exact ⟨ns[k], atI_nat (by rw [List.getElem?_map, List.getElem?_eq_getElem hk]; rfl)⟩
theorem two_ok : 2 ≤ sizeLine := by rw [sizeLine_eq]; decide
theorem ok_source (F : FnP K "_law_source" sSource f fd) (T : Txt K mg) : FnOk P w K mg base CX0 1 f fd ["_law_script", "_law_turn"] (spSource K) := by
  refine F.ok scSource (fun vs H Q E h => ?_) (fun cdv A outer s H vs Q E hr h => ?_)
  · obtain ⟨a, ns, t, rfl, _⟩ := h
    rfl
  · obtain ⟨a, ns, t, rfl, hS, h0, h1, hQ⟩ := h
    refine ⟨_, PSs.nox (pss_cons (ps_set (i := 2) scSource.nd rfl (Or.inl rfl) pe_int)
      (Evl.pss_cut (ps_if (pt_cmpR op_lt (pv 1) (pe_callB call_len rfl T.len boot_len (pa_cons (pv 0) pa_nil)) (nomark _)) (pss_one (ps_set (i := 2) scSource.nd rfl (Or.inl rfl) (pe_ix ix_list (pv 0) (pv 1) (fun _ _ => rfl)))) pss_nil)
      (pss_cons (ps_set (i := 3) scSource.nd rfl (Or.inl rfl) (pe_callB (call_max2 rfl) rfl T.max boot_max (pa_cons (pv 2) (pa_cons (pe_op op_sub (pe_un un_neg pe_int) (pv 2)) pa_nil))))
      (pss_cons (ps_set (i := 4) scSource.nd rfl (Or.inl rfl) (pe_op op_mod (pe_callTy call_int1 rfl T.int boot_int (pa_cons (pe_op op_add (pe_op op_add (pe_op op_mul (pe_op op_mod (pe_callTy call_int1 rfl T.int boot_int (pa_cons (pv 3) pa_nil)) pe_int) pe_int) (pe_op op_mul pe_int (pv 1))) pe_int) pa_nil)) pe_int))
      (Evl.pss_cut (ps_if (pt_cmpR op_lt (pv 3) (pe_op op_pow pe_int pe_int) (nomark _)) (pss_one (ps_set (i := 3) scSource.nd rfl (Or.inl rfl) pe_int)) pss_nil)
      (pss_one (ps_ret (pe_lst (pa_cons (pv 3) (pa_cons (pv 4) pa_nil)))))))))), ?_⟩
    refine ⟨fun σ' H' => ∃ c : Int, σ' = [some (.ref a), some (.int t), some (.int c), none, none] ∧ H' = H, ?_, ?_⟩
    · refine ⟨_, rfl, _, rfl, _, _, rfl, Or.inl ⟨_, hS, rfl⟩, _, _, rfl, rfl, _, rfl, ?_⟩
      refine ite2 (fun hlt => ?_) (fun _ => ⟨0, rfl, rfl⟩)
      obtain ⟨c, hc⟩ := atI_int h0 (of_decide_eq_true hlt)
      exact ⟨_, rfl, _, rfl, a, _, t, .int c, rfl, rfl, hS, hc, c, rfl, rfl⟩
    · rintro σ' H' ⟨c, rfl, rfl⟩
      refine ⟨_, rfl, _, rfl, _, rfl, _, _, rfl, rfl, _, _, rfl, ?_⟩
      have hN : 0 ≤ (if -1 - c > c then -1 - c else c) := by split <;> omega
      generalize (if -1 - c > c then -1 - c else c) = N at hN
      refine ⟨_, rfl, Or.inl ⟨_, rfl, _, _, rfl, rfl, (by decide : (0 : Int) < 2147483629), _, _, rfl, rfl, Or.inr ⟨by decide, by decide⟩, _, rfl, _, _, rfl, rfl, Or.inl ⟨by decide, by decide⟩, _, _, rfl, rfl, _, _, rfl, rfl, Or.inl ⟨_, rfl, _, _, rfl, rfl, (by decide : (0 : Int) < 2147483647), ?_⟩⟩⟩
      have hS1 : 0 ≤ (N % 2147483629 * 16807 + 104729 * t + 11) % 2147483647 := Int.emod_nonneg _ (by decide)
      have hS2 : (N % 2147483629 * 16807 + 104729 * t + 11) % 2147483647 < 2147483647 := Int.emod_lt_of_pos _ (by decide)
      refine ⟨fun σ' H1 => ∃ M S : Int, 0 ≤ M ∧ 0 ≤ S ∧ S < 2147483647 ∧ σ' = [some (.ref a), some (.int t), some (.int c), some (.int M), some (.int S)] ∧ H1 = H', ?_, ?_⟩
      · refine ⟨_, rfl, _, _, rfl, rfl, ⟨by decide, by decide, by decide⟩, _, _, rfl, rfl, _, rfl, ?_⟩
        exact ite2 (fun _ => ⟨0, _, Int.le_refl _, hS1, hS2, rfl, rfl⟩) (fun _ => ⟨N, _, hN, hS1, hS2, rfl, rfl⟩)
      · rintro σ' H1 ⟨M, S, hM, q1, q2, rfl, rfl⟩
        exact ⟨_, rfl, _, rfl, two_ok, fun p hp => hQ p M S hp hM q1 q2⟩
theorem ok_draw (F : FnP K "_law_draw" sDraw f fd) (T : Txt K mg) : FnOk P w K mg base CX0 1 f fd ["_law_source_here", "_law_amount"] spDraw := by
  refine F.ok scDraw (fun vs H Q E h => ?_) (fun cdv A outer s H vs Q E hr h => ?_)
  · obtain ⟨p, N, S, m, rfl, _⟩ := h
    rfl
  · obtain ⟨p, N, S, m, rfl, hp, hN, hS1, hS2, hm1, hm2, hQ⟩ := h
    refine ⟨_, PSs.nox (pss_cons (ps_if (pt_cmpR op_gt (pe_ix ix_list (pv 0) pe_int (fun _ _ => rfl)) pe_int (nomark _))
        (pss_cons (ps_set (i := 2) scDraw.nd rfl (Or.inl rfl) (pe_op op_mod (pe_callTy call_int1 rfl T.int boot_int (pa_cons (pe_ix ix_list (pv 0) pe_int (fun _ _ => rfl)) pa_nil)) (pv 1)))
        (pss_cons (ps_asg (pe_op op_fdiv (pe_ix ix_list (pv 0) pe_int (fun _ _ => rfl)) (pv 1)) (pg_sub (pv 0) pe_int set_list))
        (pss_one (ps_ret (pv 2))))) pss_nil)
      (pss_cons (ps_asg (pe_op op_mod (pe_callTy call_int1 rfl T.int boot_int (pa_cons (pe_op op_add (pe_op op_mul (pe_ix ix_list (pv 0) pe_int (fun _ _ => rfl)) pe_int) pe_int) pa_nil)) pe_int) (pg_sub (pv 0) pe_int set_list))
      (pss_one (ps_ret (pe_op op_mod (pe_callTy call_int1 rfl T.int boot_int (pa_cons (pe_op op_fdiv (pe_op op_mod (pe_callTy call_int1 rfl T.int boot_int (pa_cons (pe_op op_mul (pe_ix ix_list (pv 0) pe_int (fun _ _ => rfl)) (pe_ix ix_list (pv 0) pe_int (fun _ _ => rfl))) pa_nil)) pe_int) pe_int) pa_nil)) (pv 1)))))), ?_⟩
    have hL : SqL K H p [.int N, .int S] := SqL.of hp
    refine ⟨_, rfl, p, _, 0, .int N, rfl, rfl, hL, rfl, _, _, rfl, rfl, _, rfl, ?_⟩
    refine ite2 (fun h0 => ?_) (fun _ => ?_)
    · refine ⟨_, rfl, p, _, 0, .int N, rfl, rfl, hL, rfl, Or.inl ⟨_, rfl, _, rfl, _, _, rfl, rfl, hm1, ?_⟩⟩
      refine ⟨_, rfl, p, _, 0, .int N, rfl, rfl, hL, rfl, _, rfl, _, _, rfl, rfl, ⟨hm1, hm2⟩, _, rfl, p, _, 0, 0, rfl, rfl, hp, rfl, _, rfl, ?_⟩
      exact hQ _ _ _ (Int.emod_nonneg _ (Int.ne_of_gt hm1)) (Int.emod_lt_of_pos _ hm1) (Int.ediv_nonneg hN (Int.le_of_lt hm1)) hS1 hS2
    · have e1 : 0 ≤ (S * 48271 + 11) % 2147483647 := Int.emod_nonneg _ (by decide)
      have e2 : (S * 48271 + 11) % 2147483647 < 2147483647 := Int.emod_lt_of_pos _ (by decide)
      refine ⟨_, rfl, p, _, 1, .int S, rfl, rfl, hL, rfl, _, _, rfl, rfl, Or.inr ⟨by decide, by decide⟩, _, _, rfl, rfl, Or.inl ⟨_, rfl, _, _, rfl, rfl, (by decide : (0 : Int) < 2147483647), ?_⟩⟩
      refine ⟨_, rfl, p, _, 1, 1, rfl, rfl, hp, rfl, ?_⟩
      have hL2 : SqL K (upd H p (.lst [.int N, .int ((S * 48271 + 11) % 2147483647)])) p [.int N, .int ((S * 48271 + 11) % 2147483647)] := SqL.of upd_same
      refine ⟨_, rfl, p, _, 1, .int ((S * 48271 + 11) % 2147483647), rfl, rfl, hL2, rfl, _, rfl, p, _, 1, .int ((S * 48271 + 11) % 2147483647), rfl, rfl, hL2, rfl, _, _, rfl, rfl, Or.inl ⟨by omega, by omega⟩, Or.inl ⟨_, rfl, _, _, rfl, rfl, (by decide : (0 : Int) < 2147483629), _, _, rfl, rfl, ⟨by decide, by decide⟩, Or.inl ⟨_, rfl, _, rfl, _, _, rfl, rfl, hm1, ?_⟩⟩⟩
      exact hQ _ _ _ (Int.emod_nonneg _ (Int.ne_of_gt hm1)) (Int.emod_lt_of_pos _ hm1) hN e1 e2

/-! ### the package's functions -/
abbrev sName : Stmt := top 7
abbrev sType : Stmt := top 8
abbrev nName : List Str := ["value", "sign"]
abbrev nVal : List Str := ["value"]
def isNm (z : Str) : Bool := (decide (1 ≤ z.cps.toList.length) && decide (z.cps.toList.length ≤ 8)) && z.cps.toList.all fun c => decide (97 ≤ c) && decide (c ≤ 122)
/-- no text -/
def NoStr (K : PySem.W.Frag) (H : Hp) (x : V) : Prop := ∃ t, TyX K H x (.type t) ∧ kitB t "str" = some false
def spName (K : PySem.W.Frag) (f : Str → Bool) : Sp := fun vs H Q _ => ∃ x, vs = [x] ∧ ((∃ s : Str, x = .str s ∧ s.length ≤ 1000 ∧ PyData.strOk s = true ∧ ∀ H', Evl.Ex H H' → Q (.bl (f s)) H') ∨ (NoStr K H x ∧ Q (.bl false) H))
def lettersS : Str := "abcdefghijklmnopqrstuvwxyz"
theorem letters_iff (c : Nat) : decide (c ∈ lettersS.cps.toList) = (decide (97 ≤ c) && decide (c ≤ 122)) := by
  have e : lettersS.cps.toList = [97, 98, 99, 100, 101, 102, 103, 104, 105, 106, 107, 108, 109, 110, 111, 112, 113, 114, 115, 116, 117, 118, 119, 120, 121, 122] := by decide +kernel
  rw [e, Bool.eq_iff_iff]
  simp only [decide_eq_true_eq, Bool.and_eq_true, List.mem_cons, List.not_mem_nil, or_false]
  omega
theorem scName : FnScope nName ["value"] (defScope sName) := ⟨rfl, rfl, rfl, by decide +kernel, rfl, by decide +kernel, by decide +kernel⟩
theorem boot_isi : bootBuiltins "isinstance" = some (.builtin "isinstance") := by kernel_rfl
theorem boot_all : bootBuiltins "all" = some (.builtin "all") := by kernel_rfl
theorem boot_str : bootBuiltins "str" = some (.type "str") := by kernel_rfl
theorem kit_str : kitB "str" "str" = some true := by decide +kernel
theorem ok_name (F : FnP K "is_name" sName f fd) (T : Txt K mg) {tk : Tok} (gL : mg "LETTERS" = some (.str lettersS tk)) : FnOk P w K mg base CX0 1 f fd ["value"] (spName K isNm) := by
  refine F.ok scName (fun vs H Q E h => ?_) (fun cdv A outer s H vs Q E hr h => ?_)
  · obtain ⟨x, rfl, _⟩ := h
    rfl
  · obtain ⟨x, rfl, h⟩ := h
    refine ⟨_, PSs.nox (pss_cons (ps_if (PW.pt (pw_or (pt_not (pt_val (pe_callB call_isi rfl T.isi boot_isi (pa_cons (pv 0) (pa_cons (pe_bltn rfl T.str boot_str (v := .ty "str") rfl) pa_nil)))))
          (pw_or1 (pt_not (pt_chain op_le op_le pe_int (pe_callB call_len rfl T.len boot_len (pa_cons (pv 0) pa_nil)) pe_int))))) (pss_one (ps_ret pe_bl)) pss_nil)
        (pss_one (ps_ret (pe_callB (cr_all rfl) rfl T.all boot_all (pa_cons (pe_lc (own := [("sign", 1)]) (g := gName 1) (tt := tYes) rfl scName.nd (pi_str (pv 0)) (blkOk_by (N := nName) (sc := defScope sName) (by decide +kernel))
          (fun _ _ _ _ _ => pg_name (i := 1) scName.nd rfl (Or.inl rfl)) (fun _ _ _ _ _ => pts_nil) (fun _ _ _ _ _ => pe_cmpR op_in_sign (pv 1) (pe_glob rfl gL (v := .str lettersS) ⟨tk, rfl⟩) (by rfl))) pa_nil))))), ?_⟩
    rcases h with ⟨z, rfl, hz, hk, hQ⟩ | ⟨⟨t, ty, kt⟩, hQ⟩
    · refine ⟨_, rfl, _, _, _, _, true, rfl, .ty "str", .base (.str z), kit_ty kit_str, _, rfl, ?_⟩
      have hz2 : z.length ≤ sizeLine := Nat.le_trans hz (by rw [sizeLine_eq]; decide)
      have hl : z.length = z.cps.toList.length := by simp [Str.length]
      refine ⟨_, rfl, _, _, rfl, ⟨hz2, rfl⟩, _, _, rfl, rfl, _, rfl, ?_⟩
      refine ite2 (fun h1 => ⟨_, _, rfl, rfl, _, rfl, ?_⟩) (fun h1 => ⟨_, rfl, ?_⟩)
      · have h1' : 1 ≤ z.cps.toList.length := by
          have := of_decide_eq_true h1
          omega
        by_cases h2 : z.cps.toList.length ≤ 8
        · have e2 : decide ((z.length : Int) ≤ 8) = true := decide_eq_true (by omega)
          show (if (!decide ((z.length : Int) ≤ 8)) = true then _ else _)
          rw [e2]
          refine iteF ?_
          refine ⟨_, rfl, _, rfl, fun D hD => ?_⟩
          refine lc_it (walk_str (z := z)) (fun i H' => Evl.Ex H H' ∧ H D = none ∧ H' D = some (.lst ((z.cps.toList.take i).map fun c => .bl (decide (97 ≤ c) && decide (c ≤ 122))))) ⟨Evl.Ex.new hD, hD, upd_same⟩ (fun _ _ _ _ => trivial) ?_ ?_
          · rintro i x H2 H3 hi ⟨e, _, hd⟩ ⟨rfl, c, hc, rfl⟩
            refine ⟨rfl, ?_⟩
            unfold tYes
            dsimp only
            rw [if_pos rfl]
            refine ⟨_, rfl, c, lettersS, rfl, rfl, _, hd, ?_, e.mut hD, hD, ?_⟩
            · rw [List.length_map, List.length_take]
              have : z.cps.toList.length < sizeLine := by rw [sizeLine_eq]; omega
              omega
            · have hc' : z.cps.toList[i]? = some c := by simpa using hc
              have hi' : i < z.cps.toList.length := by simpa using hi
              rw [upd_same, letters_iff, List.take_succ, hc']
              simp
          · rintro H2 ⟨e, _, hd⟩
            refine ⟨D, z.cps.toList.map fun c => decide (97 ≤ c) && decide (c ≤ 122), rfl, ?_, ?_⟩
            · refine SqL.of ?_
              rw [hd, List.take_of_length_le (by simp), List.map_map]
              rfl
            · have q := hQ H2 e
              have e3 : isNm z = (z.cps.toList.map fun c => decide (97 ≤ c) && decide (c ≤ 122)).all id := by
                unfold isNm
                rw [decide_eq_true h1', decide_eq_true h2, List.all_map]
                simp [Function.comp_def]
              rw [e3] at q
              exact q
        · have e2 : decide ((z.length : Int) ≤ 8) = false := decide_eq_false (by omega)
          show (if (!decide ((z.length : Int) ≤ 8)) = true then _ else _)
          rw [e2]
          refine iteT ?_
          have q := hQ H (Evl.Ex.refl H)
          have e3 : isNm z = false := by unfold isNm; rw [decide_eq_false h2]; simp
          rw [e3] at q
          exact q
      · have h1' : ¬ 1 ≤ z.cps.toList.length := by
          intro q
          apply h1
          exact decide_eq_true (by omega)
        have q := hQ H (Evl.Ex.refl H)
        have e3 : isNm z = false := by unfold isNm; rw [decide_eq_false h1']; simp
        rw [e3] at q
        exact q
    · refine ⟨_, rfl, _, _, _, _, false, rfl, .ty "str", ty, kit_ty kt, _, rfl, ?_⟩
      exact hQ

/-! ### kinds -/
def brk : Str := "[]"
def eb (z : Str) : Bool := Txt.endswith z brk
def c2 (z : Str) : Str := cutS z none (some (-2))
def nmOf (z : Str) : Str := if eb z = true then c2 z else z
theorem arr_iff (z : Str) : decide (V.str (cutS z (some (-2)) none) = V.str brk) = eb z := by
  have eb_eq : eb z = (decide (2 ≤ z.cps.toList.length) && decide (z.cps.toList.drop (z.cps.toList.length - 2) = brk.cps.toList)) := by
    have hl : z.length = z.cps.toList.length := by simp [Str.length]
    have hb : brk.length = 2 := by decide +kernel
    unfold eb Txt.endswith
    rw [PySem.StrLaws.subAt_eq, hb, hl, Nat.zero_add]
    by_cases h : 2 ≤ z.cps.toList.length
    · rw [List.take_of_length_le (by rw [List.length_drop]; omega), decide_eq_true h]
      rw [Bool.true_and, Bool.true_and, Bool.beq_eq_decide_eq]
    · rw [decide_eq_false h, Bool.false_and, Bool.false_and]
  have hcut : (cutS z (some (-2)) none).cps.toList = z.cps.toList.drop (z.cps.toList.length - 2) := by
    have hl : z.length = z.cps.toList.length := by simp [Str.length]
    unfold cutS
    show ((z.cps.toList.drop (HT.sIx z.length 0 (some (-2)))).take (HT.sIx z.length z.length none - HT.sIx z.length 0 (some (-2)))).toArray.toList = _
    have e1 : HT.sIx z.length 0 (some (-2)) = z.cps.toList.length - 2 := by
      unfold HT.sIx
      rw [hl]
      show (if (-2 : Int) < 0 then _ else _) = _
      rw [if_pos (by decide)]
      omega
    rw [e1, HT.sIx_none, hl]
    rw [List.take_of_length_le (by rw [List.length_drop]; omega)]
  rw [eb_eq, Bool.eq_iff_iff]
  simp only [decide_eq_true_eq, Bool.and_eq_true]
  constructor
  · intro h
    have h2 : (cutS z (some (-2)) none).cps.toList = brk.cps.toList := by rw [V.str.inj h]
    rw [hcut] at h2
    refine ⟨?_, h2⟩
    have h3 := congrArg List.length h2
    rw [List.length_drop] at h3
    have hb : brk.cps.toList.length = 2 := by decide +kernel
    omega
  · rintro ⟨_, h⟩
    rw [← hcut] at h
    exact congrArg V.str (Str.ext' (Array.toList_inj.mp h))
theorem nm_len (z : Str) (h : z.length ≤ 1000) : (nmOf z).length ≤ 1000 := by
  unfold nmOf
  split
  · exact Nat.le_trans (cutS_length z _ _) h
  · exact h
theorem cut_ok (z : Str) (lo hi : Option Int) (h : PyData.strOk z = true) : PyData.strOk (cutS z lo hi) = true := by
  unfold PyData.strOk at h ⊢
  rw [Array.all_eq_true_iff_forall_mem] at h ⊢
  intro c hc
  refine h c ?_
  have hc' : c ∈ ((z.cps.toList.drop (HT.sIx z.length 0 lo)).take (HT.sIx z.length z.length hi - HT.sIx z.length 0 lo)).toArray := hc
  rw [List.mem_toArray] at hc'
  exact Array.mem_toList_iff.mp (List.mem_of_mem_drop (List.mem_of_mem_take hc'))
theorem nm_ok (z : Str) (h : PyData.strOk z = true) : PyData.strOk (nmOf z) = true := by
  unfold nmOf
  split
  · exact cut_ok z _ _ h
  · exact h
theorem le_line {n : Nat} (h : n ≤ 1000) : n ≤ sizeLine := Nat.le_trans h (by rw [sizeLine_eq]; decide)
theorem scType : FnScope nVal ["value"] (defScope sType) := ⟨rfl, rfl, rfl, by decide +kernel, rfl, by decide +kernel, by decide +kernel⟩
theorem ok_type (F : FnP K "is_type" sType f fd) (T : Txt K mg) {fN : Addr} {fdN : FuncData} (FN : FnP K "is_name" sName fN fdN) (gN : mg "is_name" = some (.ref fN)) {tk : Tok} (gL : mg "LETTERS" = some (.str lettersS tk)) :
    FnOk P w K mg base CX0 2 f fd ["value"] (spName K fun z => isNm (nmOf z)) := by
  have GN : FnOk P w K mg base CX0 1 fN fdN ["value"] (spName K isNm) := ok_name FN T gL
  have bN : Binds K fdN ["value"] [] := FN.bindsN fun _ _ _ _ _ _ us hl => match us, hl with | [_], _ => rfl
  refine F.ok scType (fun vs H Q E h => ?_) (fun cdv A outer s H vs Q E hr h => ?_)
  · obtain ⟨x, rfl, _⟩ := h
    rfl
  · obtain ⟨x, rfl, h⟩ := h
    refine ⟨_, PSs.nox (pss_cons (ps_if (pt_not (pt_val (pe_callB call_isi rfl T.isi boot_isi (pa_cons (pv 0) (pa_cons (pe_bltn rfl T.str boot_str (v := .ty "str") rfl) pa_nil))))) (pss_one (ps_ret pe_bl)) pss_nil)
      (pss_one (ps_ret (pe_call GN hr rfl gN FN.kp bN .nil pass0 (pa_cons (pe_ifExp (pt_val (pe_m1 PySem.F.slot_str_endswith PySem.F.type_str_endswith mt_endswith (pv 0) pe_str)) (pe_slice sl_str (pv 0) po_none (po_some (pe_un un_neg pe_int))) (pv 0)) pa_nil))))), ?_⟩
    rcases h with ⟨z, rfl, hz, hk, hQ⟩ | ⟨⟨t, ty, kt⟩, hQ⟩
    · refine ⟨_, rfl, _, _, _, _, true, rfl, .ty "str", .base (.str z), kit_ty kit_str, _, rfl, ?_⟩
      refine ⟨_, rfl, ⟨_, rfl⟩, _, brk, rfl, rfl, _, rfl, ?_⟩
      have q : nmOf z = if eb z = true then c2 z else z := rfl
      refine ite2 (fun h => ?_) (fun h => ?_)
      · have q2 : nmOf z = c2 z := by rw [q, if_pos (show eb z = true from h)]
        refine ⟨_, rfl, _, rfl, _, rfl, z, rfl, le_line hz, _, rfl, .inl ⟨_, rfl, Nat.le_trans (cutS_length z _ _) hz, cut_ok z _ _ hk, fun H' e => ?_⟩⟩
        have q3 : Q (.bl (isNm (nmOf z))) H' := hQ H' e
        rw [q2] at q3
        exact q3
      · have q2 : nmOf z = z := by rw [q, if_neg (show ¬ eb z = true from h)]
        refine ⟨_, rfl, _, rfl, .inl ⟨_, rfl, hz, hk, fun H' e => ?_⟩⟩
        have q3 : Q (.bl (isNm (nmOf z))) H' := hQ H' e
        rw [q2] at q3
        exact q3
    · refine ⟨_, rfl, _, _, _, _, false, rfl, .ty "str", ty, kit_ty kt, _, rfl, ?_⟩
      exact hQ

/-! ### the law's own reading of a name -/
abbrev nLName : List Str := ["_law_thing", "_law_sign"]
theorem strs_dp {K : PySem.W.Frag} {H : Hp} : ∀ l : List Nat, DpAll K H (l.map fun c => V.str ⟨#[c]⟩) (l.map fun c => PyData.str ⟨#[c]⟩)
  | [] => .nil
  | c :: l => .cons (.str _) (strs_dp l)
theorem canLay_strs : ∀ l : List Nat, (∀ c ∈ l, c < 0x110000) → PyData.canLayAll0 (l.map fun c => PyData.str ⟨#[c]⟩) = true
  | [], _ => rfl
  | c :: l, h => by
    show (PyData.strOk ⟨#[c]⟩ && PyData.canLayAll0 (l.map fun c => PyData.str ⟨#[c]⟩)) = true
    rw [canLay_strs l fun d hd => h d (List.mem_cons_of_mem _ hd), Bool.and_true]
    have hc := h c List.mem_cons_self
    simp [PyData.strOk, hc]
theorem depth_strs : ∀ l : List Nat, PyData.depthAll (l.map fun c => PyData.str ⟨#[c]⟩) = 0
  | [] => rfl
  | c :: l => by
    have ih := depth_strs l
    simp only [List.map_cons, PyData.depthAll, PyData.depth, ih]
    try rfl
theorem shaped_strs (l : List Nat) (h : ∀ c ∈ l, c < 0x110000) : SeqAt.shaped (.list (l.map fun c => PyData.str ⟨#[c]⟩)) = true := by
  unfold SeqAt.shaped
  rw [show PyData.canLay0 (.list (l.map fun c => PyData.str ⟨#[c]⟩)) = PyData.canLayAll0 (l.map fun c => PyData.str ⟨#[c]⟩) from by unfold PyData.canLay0; rfl, canLay_strs l h]
  simp [PyData.depth, depth_strs]
theorem sgn_le (c : Nat) : decide (([c] : List Nat) < [97]) = decide (c < 97) := by
  rw [Bool.eq_iff_iff, decide_eq_true_eq, decide_eq_true_eq]
  constructor
  · intro h
    cases h with
    | rel h => exact h
    | cons h => cases h
  · exact fun h => .rel h
theorem sgn_ge (c : Nat) : decide (([122] : List Nat) < [c]) = decide (122 < c) := by
  rw [Bool.eq_iff_iff, decide_eq_true_eq, decide_eq_true_eq]
  constructor
  · intro h
    cases h with
    | rel h => exact h
    | cons h => cases h
  · exact fun h => .rel h
def okC (c : Nat) : Bool := decide (97 ≤ c) && decide (c ≤ 122)
end
end K03
set_option Elab.async false
set_option linter.all false
set_option maxRecDepth 100000
set_option maxHeartbeats 0
namespace K03
open PySem PySem.Spec PyProof.Rows L2
/-! ### things as data -/
def tyD : PyData → String
  | .none => "NoneType"
  | .bool _ => "bool"
  | .int _ => "int"
  | .str _ => "str"
  | .list _ => "list"
  | .tuple _ => "tuple"
  | .dict _ => "dict"
theorem ty_of {K : PySem.W.Frag} {H : Hp} {x : V} {d : PyData} (h : EX2.Dq H x d) : TyX K H x (.type (tyD d)) := by
  cases h with
  | non => exact .base .non
  | bl b => exact .base (.bl b)
  | int i => exact .base (.int i)
  | str z => exact .base (.str z)
  | lst e _ => exact .base (.lst e)
  | tup e _ => exact .base (.tup e)
  | dk e _ => exact .base (.dK e)
def isIntD : PyData → Bool
  | .int _ => true
  | _ => false
def isStrD : PyData → Bool
  | .str _ => true
  | _ => false
def isTupD : PyData → Bool
  | .tuple _ => true
  | _ => false
def isBoolD : PyData → Bool
  | .bool _ => true
  | _ => false
theorem kit_int (d : PyData) : kitB (tyD d) "int" = some (isIntD d || isBoolD d) := match d with
  | .none => (by decide +kernel : kitB "NoneType" "int" = some false)
  | .bool _ => (by decide +kernel : kitB "bool" "int" = some true)
  | .int _ => (by decide +kernel : kitB "int" "int" = some true)
  | .str _ => (by decide +kernel : kitB "str" "int" = some false)
  | .list _ => (by decide +kernel : kitB "list" "int" = some false)
  | .tuple _ => (by decide +kernel : kitB "tuple" "int" = some false)
  | .dict _ => (by decide +kernel : kitB "dict" "int" = some false)
theorem kit_bool (d : PyData) : kitB (tyD d) "bool" = some (isBoolD d) := match d with
  | .none => (by decide +kernel : kitB "NoneType" "bool" = some false)
  | .bool _ => (by decide +kernel : kitB "bool" "bool" = some true)
  | .int _ => (by decide +kernel : kitB "int" "bool" = some false)
  | .str _ => (by decide +kernel : kitB "str" "bool" = some false)
  | .list _ => (by decide +kernel : kitB "list" "bool" = some false)
  | .tuple _ => (by decide +kernel : kitB "tuple" "bool" = some false)
  | .dict _ => (by decide +kernel : kitB "dict" "bool" = some false)
theorem kit_strD (d : PyData) : kitB (tyD d) "str" = some (isStrD d) := match d with
  | .none => (by decide +kernel : kitB "NoneType" "str" = some false)
  | .bool _ => (by decide +kernel : kitB "bool" "str" = some false)
  | .int _ => (by decide +kernel : kitB "int" "str" = some false)
  | .str _ => (by decide +kernel : kitB "str" "str" = some true)
  | .list _ => (by decide +kernel : kitB "list" "str" = some false)
  | .tuple _ => (by decide +kernel : kitB "tuple" "str" = some false)
  | .dict _ => (by decide +kernel : kitB "dict" "str" = some false)
theorem kit_tupD (d : PyData) : kitB (tyD d) "tuple" = some (isTupD d) := match d with
  | .none => (by decide +kernel : kitB "NoneType" "tuple" = some false)
  | .bool _ => (by decide +kernel : kitB "bool" "tuple" = some false)
  | .int _ => (by decide +kernel : kitB "int" "tuple" = some false)
  | .str _ => (by decide +kernel : kitB "str" "tuple" = some false)
  | .list _ => (by decide +kernel : kitB "list" "tuple" = some false)
  | .tuple _ => (by decide +kernel : kitB "tuple" "tuple" = some true)
  | .dict _ => (by decide +kernel : kitB "dict" "tuple" = some false)
def isLstD : PyData → Bool
  | .list _ => true
  | _ => false
theorem kit_lstD (d : PyData) : kitB (tyD d) "list" = some (isLstD d) := match d with
  | .none => (by decide +kernel : kitB "NoneType" "list" = some false)
  | .bool _ => (by decide +kernel : kitB "bool" "list" = some false)
  | .int _ => (by decide +kernel : kitB "int" "list" = some false)
  | .str _ => (by decide +kernel : kitB "str" "list" = some false)
  | .list _ => (by decide +kernel : kitB "list" "list" = some true)
  | .tuple _ => (by decide +kernel : kitB "tuple" "list" = some false)
  | .dict _ => (by decide +kernel : kitB "dict" "list" = some false)
-- texts in it are short and of true signs
mutual
def okD : PyData → Bool
  | .str z => decide (z.length ≤ 1000) && PyData.strOk z
  | .list xs => okAll xs
  | .tuple xs => okAll xs
  | _ => true
def okAll : List PyData → Bool
  | [] => true
  | d :: ds => okD d && okAll ds
end
def inR (lo hi : Int) : PyData → Bool
  | .int i => decide (lo ≤ i) && decide (i ≤ hi)
  | _ => false
def nameD : PyData → Bool
  | .str z => isNm z
  | _ => false
def typeD : PyData → Bool
  | .str z => isNm (nmOf z)
  | _ => false
/-- a question about one thing, answered alike in every larger heap -/
def spD (f : PyData → Bool) : Sp := fun vs H Q _ => ∃ (x : V) (d : PyData), vs = [x] ∧ EX2.Dq H x d ∧ okD d = true ∧ ∀ H', Evl.Ex H H' → Q (.bl (f d)) H'
theorem name_of {K : PySem.W.Frag} {g : Str → Bool} {f : PyData → Bool} (hs : ∀ z, f (.str z) = g z) (hn : ∀ d, isStrD d = false → f d = false) : ∀ vs H Q E, spD f vs H Q E → spName K g vs H Q E := by
  rintro vs H Q E ⟨x, d, rfl, hd, hk, hQ⟩
  refine ⟨x, rfl, ?_⟩
  cases h : isStrD d with
  | true =>
    cases d with
    | str z =>
      cases hd
      simp only [okD, Bool.and_eq_true, decide_eq_true_eq] at hk
      exact .inl ⟨z, rfl, hk.1, hk.2, fun H' e => by rw [← hs]; exact hQ H' e⟩
    | _ => cases h
  | false =>
    refine .inr ⟨⟨_, ty_of hd, (kit_strD d).trans (by rw [h])⟩, ?_⟩
    have q := hQ H (Evl.Ex.refl H)
    rw [hn d h] at q
    exact q
theorem spD_len {f : PyData → Bool} {p : Str} : ∀ vs H Q E, spD f vs H Q E → vs.length = [p].length := by
  rintro vs H Q E ⟨x, d, rfl, _⟩
  rfl
section
variable {P : Program} {w : World} {K : PySem.W.Frag} {mg : Str → Option Value} {base : Heap} {f : Addr} {fd : FuncData}
theorem boot_bool : bootBuiltins "bool" = some (.type "bool") := by kernel_rfl
theorem boot_tuple : bootBuiltins "tuple" = some (.type "tuple") := by kernel_rfl
theorem boot_list : bootBuiltins "list" = some (.type "list") := by kernel_rfl
theorem boot_any : bootBuiltins "any" = some (.builtin "any") := by kernel_rfl
abbrev sInteger : Stmt := top 5
abbrev sRange : Stmt := top 6
abbrev nObj : List Str := ["obj"]
theorem scInteger : FnScope nObj ["obj"] (defScope sInteger) := ⟨rfl, rfl, rfl, by decide +kernel, rfl, by decide +kernel, by decide +kernel⟩
theorem ok_integer (F : FnP K "is_integer" sInteger f fd) (T : Txt K mg) : FnOk P w K mg base CX0 1 f fd ["obj"] (spD isIntD) := by
  refine F.ok scInteger spD_len (fun cdv A outer s H vs Q E hr h => ?_)
  obtain ⟨x, d, rfl, hd, hk, hQ⟩ := h
  refine ⟨_, PSs.nox (pss_one (ps_ret (pe_and (pe_callB call_isi rfl T.isi boot_isi (pa_cons (pv 0) (pa_cons (pe_bltn rfl T.int boot_int (v := .ty "int") rfl) pa_nil)))
    (pe_one (pe_not (pe_callB call_isi rfl T.isi boot_isi (pa_cons (pv 0) (pa_cons (pe_bltn rfl T.bl boot_bool (v := .ty "bool") rfl) pa_nil)))))))), ?_⟩
  refine ⟨_, rfl, _, _, _, _, _, rfl, .ty "int", ty_of hd, kit_ty (kit_int d), _, rfl, ?_⟩
  have q := hQ H (Evl.Ex.refl H)
  refine ite2 (fun h => ?_) (fun h => ?_)
  · refine ⟨_, rfl, _, _, _, _, _, rfl, .ty "bool", ty_of hd, kit_ty (kit_bool d), _, rfl, ?_⟩
    cases d <;> first | exact q | exact absurd h (by simp [isIntD, isBoolD])
  · cases d <;> first | exact q | exact absurd (by simp [isIntD, isBoolD]) h
def spRange : Sp := fun vs H Q _ => ∃ (x : V) (d : PyData) (lo hi : Int), vs = [x, .int lo, .int hi] ∧ EX2.Dq H x d ∧ okD d = true ∧ ∀ H', Evl.Ex H H' → Q (.bl (inR lo hi d)) H'
abbrev nRange : List Str := ["obj", "least", "most"]
theorem scRange : FnScope nRange ["obj", "least", "most"] (defScope sRange) := ⟨rfl, rfl, rfl, by decide +kernel, rfl, by decide +kernel, by decide +kernel⟩
theorem ok_range (F : FnP K "is_in_range" sRange f fd) {fI : Addr} {fdI : FuncData} (GI : FnOk P w K mg base CX0 1 fI fdI ["obj"] (spD isIntD)) (gI : mg "is_integer" = some (.ref fI)) (FI : FnP K "is_integer" sInteger fI fdI) : FnOk P w K mg base CX0 2 f fd ["obj", "least", "most"] spRange := by
  have bI : Binds K fdI ["obj"] [] := FI.bindsN fun _ _ _ _ _ _ us hl => match us, hl with | [_], _ => rfl
  refine F.ok scRange (fun vs H Q E h => ?_) (fun cdv A outer s H vs Q E hr h => ?_)
  · obtain ⟨x, d, lo, hi, rfl, _⟩ := h
    rfl
  · obtain ⟨x, d, lo, hi, rfl, hd, hk, hQ⟩ := h
    refine ⟨_, PSs.nox (pss_one (ps_ret (pe_and (pe_call GI hr rfl gI FI.kp bI .nil pass0 (pa_cons (pv 0) pa_nil)) (pe_one (pe_chain op_le op_le (pv 1) (pv 0) (pv 2)))))), ?_⟩
    refine ⟨_, rfl, x, d, rfl, hd, hk, fun H' e => ⟨_, rfl, ?_⟩⟩
    have q := hQ H' e
    refine ite2 (fun h => ?_) (fun h => ?_)
    · cases d with
      | int i =>
        cases hd
        refine ⟨_, rfl, _, rfl, _, _, rfl, rfl, _, rfl, ?_⟩
        have q2 : Q (.bl (decide (lo ≤ i) && decide (i ≤ hi))) H' := q
        refine ite2 (fun h1 => ?_) (fun h1 => ?_)
        · refine ⟨_, rfl, _, _, rfl, rfl, ?_⟩
          rw [h1, Bool.true_and] at q2
          exact q2
        · rw [show decide (lo ≤ i) = false from by simpa using h1, Bool.false_and] at q2
          exact q2
      | _ => cases h
    · cases d <;> first | exact q | exact absurd rfl h
end
end K03
set_option Elab.async false
set_option linter.all false
set_option maxRecDepth 100000
set_option maxHeartbeats 0
namespace K03
open PySem PySem.Spec PyProof.Rows L2
abbrev ssequence : Stmt := top 9
abbrev sfits : Stmt := top 15
abbrev sis_instruction : Stmt := top 16
abbrev sdrawers : Stmt := top 17
abbrev stargets : Stmt := top 18
abbrev scode : Stmt := top 19
abbrev ssize : Stmt := top 20
abbrev spick : Stmt := top 25
abbrev stypeL : Stmt := top 26
abbrev scall : Stmt := top 27
abbrev smade : Stmt := top 28
abbrev sready : Stmt := top 29
abbrev smethod : Stmt := top 30
/-- what the program's top has left -/
structure Defs (w : World) (K : PySem.W.Frag) (mg : Str → Option Value) : Prop where
  t : Txt K mg
  letters : ∃ tk, mg "LETTERS" = some (.str lettersS tk)
  code40 : ∃ tk, mg "MOST_CODE" = some (.int 40 tk)
  size10 : ∃ tk, mg "MOST_SIZE" = some (.int 10 tk)
  params4 : ∃ tk, mg "MOST_PARAMS" = some (.int 4 tk)
  forms : mg "FORMS" = some (.ref (He.ga K "FORMS"))
  kd : ∃ es n, KDict K w (He.ga K "FORMS") es n
  look : ∀ z, (∃ y t, K03.forms.lookup z = some y ∧ PySem.W.nsIn K (He.ga K "FORMS") z = some (some (.str y t))) ∨ (K03.forms.lookup z = none ∧ PySem.W.nsIn K (He.ga K "FORMS") z = some none)
  is_integer : ∃ f fd, mg "is_integer" = some (.ref f) ∧ FnP K "is_integer" sInteger f fd
  is_in_range : ∃ f fd, mg "is_in_range" = some (.ref f) ∧ FnP K "is_in_range" sRange f fd
  is_name : ∃ f fd, mg "is_name" = some (.ref f) ∧ FnP K "is_name" sName f fd
  is_type : ∃ f fd, mg "is_type" = some (.ref f) ∧ FnP K "is_type" sType f fd
  is_sequence : ∃ f fd, mg "is_sequence" = some (.ref f) ∧ FnP K "is_sequence" ssequence f fd
  fits : ∃ f fd, mg "fits" = some (.ref f) ∧ FnP K "fits" sfits f fd
  is_instruction : ∃ f fd, mg "is_instruction" = some (.ref f) ∧ FnP K "is_instruction" sis_instruction f fd
  drawers_in : ∃ f fd, mg "drawers_in" = some (.ref f) ∧ FnP K "drawers_in" sdrawers f fd
  targets_in : ∃ f fd, mg "targets_in" = some (.ref f) ∧ FnP K "targets_in" stargets f fd
  is_code : ∃ f fd, mg "is_code" = some (.ref f) ∧ FnP K "is_code" scode f fd
  is_size : ∃ f fd, mg "is_size" = some (.ref f) ∧ FnP K "is_size" ssize f fd
  source : ∃ f fd, mg "_law_source" = some (.ref f) ∧ FnP K "_law_source" sSource f fd
  draw : ∃ f fd, mg "_law_draw" = some (.ref f) ∧ FnP K "_law_draw" sDraw f fd
  pick : ∃ f fd, mg "_law_pick" = some (.ref f) ∧ FnP K "_law_pick" spick f fd
  typeL : ∃ f fd, mg "_law_type" = some (.ref f) ∧ FnP K "_law_type" stypeL f fd
  call : ∃ f fd, mg "_law_call" = some (.ref f) ∧ FnP K "_law_call" scall f fd
  made : ∃ f fd, mg "_law_made" = some (.ref f) ∧ FnP K "_law_made" smade f fd
  ready : ∃ f fd, mg "_law_ready" = some (.ref f) ∧ FnP K "_law_ready" sready f fd
  method : ∃ f fd, mg "_law_method" = some (.ref f) ∧ FnP K "_law_method" smethod f fd
section
variable {P : Program} {w : World} {K : PySem.W.Frag} {mg : Str → Option Value} {base : Heap} {f : Addr} {fd : FuncData}
theorem okD_name (D : Defs w K mg) {f : Addr} {fd : FuncData} (F : FnP K "is_name" sName f fd) : FnOk P w K mg base CX0 1 f fd ["value"] (spD nameD) := by
  obtain ⟨tk, gL⟩ := D.letters
  exact (ok_name F D.t gL).imp (name_of (f := nameD) (fun _ => rfl) fun d h => by cases d <;> first | rfl | cases h)
theorem okD_type (D : Defs w K mg) {f : Addr} {fd : FuncData} (F : FnP K "is_type" sType f fd) : FnOk P w K mg base CX0 2 f fd ["value"] (spD typeD) := by
  obtain ⟨tk, gL⟩ := D.letters
  obtain ⟨fN, fdN, gN, FN⟩ := D.is_name
  exact (ok_type F D.t FN gN gL).imp (name_of (f := typeD) (fun _ => rfl) fun d h => by cases d <;> first | rfl | cases h)
theorem okD_range (D : Defs w K mg) {f : Addr} {fd : FuncData} (F : FnP K "is_in_range" sRange f fd) : FnOk P w K mg base CX0 2 f fd ["obj", "least", "most"] spRange := by
  obtain ⟨fI, fdI, gI, FI⟩ := D.is_integer
  exact ok_range F (ok_integer FI D.t) gI FI
/-! ### fits -/
def tupAll (g : PyData → Bool) : PyData → Bool
  | .tuple ds => decide (ds.length ≤ 4) && ds.all g
  | _ => false
def elC (c : Nat) (e : PyData) : Bool := if c = 121 then typeD e else inR 0 9 e
def fitsC (c : Nat) (d : PyData) : Bool :=
  if c = 114 ∨ c = 110 then inR 0 9 d else if c = 106 then inR 0 39 d else if c = 99 ∨ c = 102 then nameD d else if c = 116 then typeD d else
  tupAll (elC c) d
def spFits : Sp := fun vs H Q _ => ∃ (c : Nat) (x : V) (d : PyData), vs = [.str ⟨#[c]⟩, x] ∧ EX2.Dq H x d ∧ okD d = true ∧ ∀ H', Evl.Ex H H' → Q (.bl (fitsC c d)) H'
theorem sg_iff {c k : Nat} {z : Str} (h : z = ⟨#[k]⟩) : ((⟨#[c]⟩ : Str) = z) ↔ c = k := by
  subst h
  constructor
  · intro e
    have := congrArg (fun s : Str => s.cps.toList) e
    simpa using this
  · rintro rfl; rfl
theorem sg_eq {c k : Nat} {z : Str} (h : z = ⟨#[k]⟩) : decide (V.str ⟨#[c]⟩ = V.str z) = decide (c = k) :=
  decide_eq_decide.mpr ⟨fun e => (sg_iff h).mp (V.str.inj e), fun e => by rw [(sg_iff h).mpr e]⟩
theorem sg_in {c a b : Nat} {x y : Str} (hx : x = ⟨#[a]⟩) (hy : y = ⟨#[b]⟩) : inV (.str ⟨#[c]⟩) [.str x, .str y] = decide (c = a ∨ c = b) := by
  have h1 : (x == (⟨#[c]⟩ : Str)) = decide (c = a) := by
    rw [Bool.eq_iff_iff, beq_iff_eq, decide_eq_true_eq, eq_comm, sg_iff hx]
  have h2 : (y == (⟨#[c]⟩ : Str)) = decide (c = b) := by
    rw [Bool.eq_iff_iff, beq_iff_eq, decide_eq_true_eq, eq_comm, sg_iff hy]
  show ((x == (⟨#[c]⟩ : Str)) || ((y == (⟨#[c]⟩ : Str)) || false)) = _
  rw [h1, h2, Bool.or_false, Bool.eq_iff_iff]
  simp
theorem okAll_mem {ds : List PyData} (h : okAll ds = true) : ∀ d ∈ ds, okD d = true := by
  induction ds with
  | nil => intro d hd; cases hd
  | cons e es ih =>
    simp only [okAll, Bool.and_eq_true] at h
    intro d hd
    rcases List.mem_cons.mp hd with rfl | hd
    · exact h.1
    · exact ih h.2 d hd
theorem okAll_of {ds : List PyData} (h : ∀ d ∈ ds, okD d = true) : okAll ds = true := by
  induction ds with
  | nil => rfl
  | cons e es ih =>
    simp only [okAll, Bool.and_eq_true]
    exact ⟨h e List.mem_cons_self, ih fun d hd => h d (List.mem_cons_of_mem _ hd)⟩
abbrev nfits : List Str := ["sign", "item", "part"]
theorem scfits : FnScope nfits ["sign", "item"] (defScope sfits) := ⟨rfl, rfl, rfl, by decide +kernel, rfl, by decide +kernel, by decide +kernel⟩
theorem ok_fits (F : FnP K "fits" sfits f fd) (D : Defs w K mg) : FnOk P w K mg base CX0 3 f fd ["sign", "item"] spFits := by
  have T := D.t
  obtain ⟨tC, gC⟩ := D.code40
  obtain ⟨tP, gP⟩ := D.params4
  obtain ⟨fR, fdR, gR, FR⟩ := D.is_in_range
  have GR : FnOk P w K mg base CX0 2 fR fdR ["obj", "least", "most"] spRange := okD_range D FR
  have bR : Binds K fdR ["obj", "least", "most"] [] := FR.bindsN fun _ _ _ _ _ _ us hl => match us, hl with | [_, _, _], _ => rfl
  obtain ⟨fN, fdN, gN, FN⟩ := D.is_name
  have GN : FnOk P w K mg base CX0 1 fN fdN ["value"] (spD nameD) := okD_name D FN
  have bN : Binds K fdN ["value"] [] := FN.bindsN fun _ _ _ _ _ _ us hl => match us, hl with | [_], _ => rfl
  obtain ⟨fT, fdT, gT, FT⟩ := D.is_type
  have GT : FnOk P w K mg base CX0 2 fT fdT ["value"] (spD typeD) := okD_type D FT
  have bT : Binds K fdT ["value"] [] := FT.bindsN fun _ _ _ _ _ _ us hl => match us, hl with | [_], _ => rfl
  refine F.ok scfits (fun vs H Q E h => ?_) (fun cdv A outer s H vs Q E hr h => ?_)
  · obtain ⟨c, x, d, rfl, _⟩ := h
    rfl
  · obtain ⟨c, x, d, rfl, hd, hk, hQ⟩ := h
    refine ⟨_, PSs.nox (pss_cons (ps_if (pt_cmpR op_in_seq (pv 0) (pe_tup (pa_cons pe_str (pa_cons pe_str pa_nil))) (by rfl))
        (pss_one (ps_ret (pe_call GR (hr.mono (by decide)) rfl gR FR.kp bR .nil pass0 (pa_cons (pv 1) (pa_cons pe_int (pa_cons pe_int pa_nil))))))
        pss_nil)
      (pss_cons (ps_if (pt_cmpR op_eq (pv 0) pe_str (nomark _))
        (pss_one (ps_ret (pe_call GR (hr.mono (by decide)) rfl gR FR.kp bR .nil pass0 (pa_cons (pv 1) (pa_cons pe_int (pa_cons (pe_op op_sub (pe_glob rfl gC (v := .int 40) ⟨tC, rfl⟩) pe_int) pa_nil))))))
        pss_nil)
      (pss_cons (ps_if (pt_cmpR op_in_seq (pv 0) (pe_tup (pa_cons pe_str (pa_cons pe_str pa_nil))) (by rfl))
        (pss_one (ps_ret (pe_call GN (hr.mono (by decide)) rfl gN FN.kp bN .nil pass0 (pa_cons (pv 1) pa_nil))))
        pss_nil)
      (pss_cons (ps_if (pt_cmpR op_eq (pv 0) pe_str (nomark _))
        (pss_one (ps_ret (pe_call GT (hr.mono (by decide)) rfl gT FT.kp bT .nil pass0 (pa_cons (pv 1) pa_nil))))
        pss_nil)
      (pss_cons (ps_if (PW.pt (pw_or (pt_not (pt_val (pe_callB call_isi rfl T.isi boot_isi (pa_cons (pv 1) (pa_cons (pe_bltn rfl T.tup boot_tuple (v := .ty "tuple") rfl) pa_nil))))) (pw_or1 (pt_cmpR op_gt (pe_callB call_len rfl T.len boot_len (pa_cons (pv 1) pa_nil)) (pe_glob rfl gP (v := .int 4) ⟨tP, rfl⟩) (nomark _)))))
        (pss_one (ps_ret pe_bl))
        pss_nil)
      (pss_one (ps_ret (pe_callB (cr_all rfl) rfl T.all boot_all (pa_cons (pe_lc (own := [("part", 2)]) (g := gName 2) (tt := tYes) rfl scfits.nd (pi_tup (pv 1)) (blkOk_by (N := nfits) (sc := defScope sfits) (by decide +kernel)) (fun _ _ _ _ _ => (pg_name (i := 2) scfits.nd rfl (Or.inl rfl))) (fun _ _ _ _ _ => pts_nil) (fun _ _ _ _ _ => (pe_ifExp (pt_cmpR op_eq (pv 0) pe_str (nomark _)) (pe_call GT (hr.mono (by decide)) rfl gT FT.kp bT .nil pass0 (pa_cons (pv 2) pa_nil)) (pe_call GR (hr.mono (by decide)) rfl gR FR.kp bR .nil pass0 (pa_cons (pv 2) (pa_cons pe_int (pa_cons pe_int pa_nil))))))) pa_nil))))))))), ?_⟩
    refine ⟨_, rfl, le_line (by simp), fun t1 h1 => ⟨t1, _, rfl, .inr (SqT.of upd_same), rfl, rfl, _, rfl, ?_⟩⟩
    show (if inV (.str ⟨#[c]⟩) [.str "r", .str "n"] = true then _ else _)
    rw [sg_in (a := 114) (b := 110) (by decide +kernel) (by decide +kernel)]
    have e1 := Evl.Ex.new (o := .tup [.str "r", .str "n"]) h1
    refine ite2 (fun k1 => ?_) (fun k1 => ?_)
    · refine ⟨_, rfl, x, d, 0, 9, rfl, hd.ext e1, hk, fun H' e => ?_⟩
      have q := hQ H' (e1.trans e)
      rw [show fitsC c d = inR 0 9 d from if_pos (of_decide_eq_true k1)] at q
      exact q
    have k1' : ¬ (c = 114 ∨ c = 110) := fun z => k1 (decide_eq_true z)
    refine ⟨_, rfl, rfl, _, rfl, ?_⟩
    rw [sg_eq (k := 106) (by decide +kernel)]
    refine ite2 (fun k2 => ?_) (fun k2 => ?_)
    · refine ⟨_, rfl, _, _, rfl, rfl, x, d, 0, 39, rfl, hd.ext e1, hk, fun H' e => ?_⟩
      have q := hQ H' (e1.trans e)
      rw [show fitsC c d = inR 0 39 d from by unfold fitsC; rw [if_neg k1', if_pos (of_decide_eq_true k2)]] at q
      exact q
    have k2' : ¬ c = 106 := fun z => k2 (decide_eq_true z)
    refine ⟨_, rfl, le_line (by simp), fun t2 h2 => ⟨t2, _, rfl, .inr (SqT.of upd_same), rfl, rfl, _, rfl, ?_⟩⟩
    show (if inV (.str ⟨#[c]⟩) [.str "c", .str "f"] = true then _ else _)
    rw [sg_in (a := 99) (b := 102) (by decide +kernel) (by decide +kernel)]
    have e2 := e1.trans (Evl.Ex.new (o := .tup [.str "c", .str "f"]) h2)
    refine ite2 (fun k3 => ?_) (fun k3 => ?_)
    · refine ⟨_, rfl, x, d, rfl, hd.ext e2, hk, fun H' e => ?_⟩
      have q := hQ H' (e2.trans e)
      rw [show fitsC c d = nameD d from by unfold fitsC; rw [if_neg k1', if_neg k2', if_pos (of_decide_eq_true k3)]] at q
      exact q
    have k3' : ¬ (c = 99 ∨ c = 102) := fun z => k3 (decide_eq_true z)
    refine ⟨_, rfl, rfl, _, rfl, ?_⟩
    rw [sg_eq (k := 116) (by decide +kernel)]
    refine ite2 (fun k4 => ?_) (fun k4 => ?_)
    · refine ⟨_, rfl, x, d, rfl, hd.ext e2, hk, fun H' e => ?_⟩
      have q := hQ H' (e2.trans e)
      rw [show fitsC c d = typeD d from by unfold fitsC; rw [if_neg k1', if_neg k2', if_neg k3', if_pos (of_decide_eq_true k4)]] at q
      exact q
    have k4' : ¬ c = 116 := fun z => k4 (decide_eq_true z)
    have q0 : ∀ H', Evl.Ex (upd (upd H t1 (.tup [.str "r", .str "n"])) t2 (.tup [.str "c", .str "f"])) H' → Q (.bl (tupAll (elC c) d)) H' := fun H' e => by
      have q := hQ H' (e2.trans e)
      unfold fitsC at q
      rw [if_neg k1', if_neg k2', if_neg k3', if_neg k4'] at q
      exact q
    have hd2 := hd.ext e2
    generalize (upd (upd H t1 (.tup [.str "r", .str "n"])) t2 (.tup [.str "c", .str "f"])) = H2 at q0 hd2
    refine ⟨_, rfl, _, _, _, _, _, rfl, .ty "tuple", ty_of hd2, kit_ty (kit_tupD d), _, rfl, ?_⟩
    cases d with
    | tuple ds =>
      obtain ⟨a, xs, rfl, ha, hall⟩ := hd2.tupI
      refine iteF ⟨_, rfl, _, _, rfl, .inr ⟨_, SqT.of ha, rfl⟩, _, _, rfl, rfl, _, rfl, ?_⟩
      have hl : xs.length = ds.length := EX2.DqAll.length hall
      refine ite2 (fun k5 => ?_) (fun k5 => ?_)
      · have k5' : ¬ ds.length ≤ 4 := by have := of_decide_eq_true k5; omega
        have q := q0 H2 (Evl.Ex.refl _)
        change Q (.bl (decide (ds.length ≤ 4) && ds.all (elC c))) H2 at q
        rw [decide_eq_false k5', Bool.false_and] at q
        exact q
      · have k5' : ds.length ≤ 4 := by
          apply Decidable.byContradiction
          intro z
          exact k5 (decide_eq_true (by omega))
        refine ⟨_, rfl, _, rfl, ⟨_, SqT.of ha⟩, fun D hD => ?_⟩
        refine EX2.lc_map (walk_tup (xs := xs)) hD (fun H' e => SqT.of (e _ _ ha)) (fun j => .bl ((elC c) (ds.getD j .none))) (by omega) (fun j H3 x H4 _ _ y => by rw [y.1]; exact Evl.Ex.refl _) ?_ ?_
        · rintro j x H3 H4 hj e3 _ ⟨rfl, hx⟩ Qt hQt
          obtain ⟨dj, hdj, hxj⟩ := hall.get hx
          have hkj : okD dj = true := okAll_mem hk dj (List.mem_of_getElem? hdj)
          have egd : ds.getD j .none = dj := by rw [List.getD_eq_getElem?_getD, hdj]; rfl
          rw [egd] at hQt
          refine ⟨rfl, _, rfl, rfl, _, rfl, ?_⟩
          rw [sg_eq (k := 121) (by decide +kernel)]
          refine ite2 (fun k6 => ?_) (fun k6 => ?_)
          · refine ⟨_, rfl, x, dj, rfl, hxj.ext e3, hkj, fun H5 e5 => ?_⟩
            have q := hQt H5 e5
            rw [elC, if_pos (of_decide_eq_true k6)] at q
            exact q
          · refine ⟨_, rfl, x, dj, 0, 9, rfl, hxj.ext e3, hkj, fun H5 e5 => ?_⟩
            have q := hQt H5 e5
            rw [elC, if_neg (fun z => k6 (decide_eq_true z))] at q
            exact q
        · intro H3 e3 hD3
          refine ⟨D, (List.range xs.length).map fun j => ((elC c) (ds.getD j .none)), rfl, SqL.of ?_, ?_⟩
          · rw [hD3, List.map_map]
            rfl
          · have q := q0 H3 e3
            change Q (.bl (decide (ds.length ≤ 4) && ds.all (elC c))) H3 at q
            rw [decide_eq_true k5', Bool.true_and] at q
            rw [hl, EX2.map_range_get ds (elC c) _ (fun i e he => by rw [List.getD_eq_getElem?_getD, he]; rfl), List.all_map]
            exact q
    | _ => exact iteT (q0 H2 (Evl.Ex.refl _))
end
end K03
set_option Elab.async false
set_option linter.all false
set_option maxRecDepth 100000
set_option maxHeartbeats 0
namespace EX2
open PySem PySem.Spec PyProof.Rows L2
/-- d[key], d a dict of the module -/
theorem pe_kd {X : Cx} {o i : Expr} {td ty : TE} {d : Addr} {es : Array DictEntry} {n : Nat} {pos : Pos} (D : KDict X.K X.w d es n) (ho : PE X o td) (hi : PE X i ty) (hs : NoSl i) :
    PE X (.Subscript o i pos) (tOp (fun x y H Q => ∃ (z : Str) (u0 : Value) (v0 : V), x = .ref d ∧ y = .str z ∧ PySem.W.nsIn X.K d z = some (some u0) ∧ RelV v0 u0 ∧ Q v0 H) td ty) := by
  refine ⟨fun pins s σ H Q I h => ?_⟩
  refine subD_of PySem.F.slot_dict_getitem.lookup hs (thn (ho.run pins s σ H _ I h) fun u s1 ⟨x, H1, I1, rx, q1⟩ => thn (hi.run pins s1 σ H1 _ I1 q1) fun iv s2 ⟨y, H2, I2, ry, q2⟩ => ?_)
  obtain ⟨z, u0, v0, ex, q3⟩ := id q2
  subst ex
  obtain rfl : u = Value.ref d := rx
  exact ⟨kd_type D I2, op_item_kd D pins s2 σ H2 (.ref d) y (.ref d) iv Q I2 rfl ry q2⟩
end EX2
namespace K03
open PySem PySem.Spec PyProof.Rows L2
def lenD : PyData → Nat
  | .tuple ds => ds.length
  | _ => 0
def insT (z : Str) (ds : List PyData) : Bool := match K03.forms.lookup z with
  | some fm => (decide (ds.length = fm.length) && (List.range fm.length).all fun i => fitsC (fm.cps.toList.getD i 0) (ds.getD i .none)) && (!(z == "call" || z == "ask") || decide (lenD (ds.getD 4 .none) = lenD (ds.getD 6 .none)))
  | none => false
def insD : PyData → Bool
  | .tuple (.str z :: ds) => insT z ds
  | _ => false
theorem forms_ok : ∀ p ∈ K03.forms, p.2.length ≤ 7 ∧ p.2.cps.all (· < 128) = true ∧ (p.1 = "call" ∨ p.1 = "ask" → p.2 = "rrcfytx") := by decide +kernel
theorem at0 {x : V} {xs : List V} : L2.atI (x :: xs) 0 = some x := atI_nat (j := 0) (xs := x :: xs) rfl
theorem cut1 (x : V) (xs : List V) : cutV (x :: xs) (some 1) none = xs ∧ HT.sIx (x :: xs).length 0 (some 1) = 1 := by
  have e : HT.sIx (x :: xs).length 0 (some 1) = 1 := by
    unfold HT.sIx
    show (if (1 : Int) < 0 then _ else _) = _
    rw [if_neg (by decide)]
    simp
  refine ⟨?_, e⟩
  unfold cutV
  rw [e, HT.sIx_none]
  simp
theorem inV2 (z a b : Str) : inV (.str z) [.str a, .str b] = (z == a || z == b) := by
  show ((a == z) || ((b == z) || false)) = _
  rw [Bool.or_false, show (a == z) = (z == a) from Bool.eq_iff_iff.mpr (by rw [beq_iff_eq, beq_iff_eq, eq_comm]), show (b == z) = (z == b) from Bool.eq_iff_iff.mpr (by rw [beq_iff_eq, beq_iff_eq, eq_comm])]
theorem fits_tup {c : Nat} {d : PyData} (hc : c = 120 ∨ c = 121) (h : fitsC c d = true) : ∃ l, d = .tuple l := by
  unfold fitsC at h
  rw [if_neg (by omega), if_neg (by omega), if_neg (by omega), if_neg (by omega)] at h
  cases d with
  | tuple l => exact ⟨l, rfl⟩
  | _ => cases h
theorem lookup_mem {z fm : Str} : ∀ {l : List (Str × Str)}, l.lookup z = some fm → (z, fm) ∈ l
  | [], h => by cases h
  | (a, b) :: l, h => by
    rw [List.lookup_cons] at h
    by_cases e : z = a
    · subst e
      simp at h
      subst h
      exact List.mem_cons_self
    · have : (z == a) = false := by simp [e]
      rw [this] at h
      exact List.mem_cons_of_mem _ (lookup_mem h)
section
variable {P : Program} {w : World} {K : PySem.W.Frag} {mg : Str → Option Value} {base : Heap} {f : Addr} {fd : FuncData}
abbrev nis_instruction : List Str := ["value", "form", "sign", "item"]
theorem scis_instruction : FnScope nis_instruction ["value"] (defScope sis_instruction) := ⟨rfl, rfl, rfl, by decide +kernel, rfl, by decide +kernel, by decide +kernel⟩
theorem ok_ins (F : FnP K "is_instruction" sis_instruction f fd) (D : Defs w K mg) : FnOk P w K mg base CX0 4 f fd ["value"] (spD insD) := by
  have T := D.t
  obtain ⟨es, n, kd⟩ := D.kd
  obtain ⟨ffits, fdfits, gfits, Ffits⟩ := D.fits
  have Gfits : FnOk P w K mg base CX0 3 ffits fdfits ["sign", "item"] spFits := ok_fits Ffits D
  have bfits : Binds K fdfits ["sign", "item"] [] := Ffits.bindsN fun _ _ _ _ _ _ us hl => match us, hl with | [_, _], _ => rfl
  refine F.ok scis_instruction spD_len (fun cdv A outer s H vs Q E hr h => ?_)
  obtain ⟨x, d, rfl, hd, hk, hQ⟩ := h
  refine ⟨_, PSs.nox (pss_cons (ps_if (PW.pt (pw_or (pt_not (pt_val (pe_callB call_isi rfl T.isi boot_isi (pa_cons (pv 0) (pa_cons (pe_bltn rfl T.tup boot_tuple (v := .ty "tuple") rfl) pa_nil))))) (pw_or (pt_cmpR (EX2.op_eq_tup0 (Nat.lt_of_le_of_lt (Nat.le_add_right _ 64) hr.units)) (pv 0) (pe_tup pa_nil) (nomark _)) (pw_or (pt_not (pt_val (pe_callB call_isi rfl T.isi boot_isi (pa_cons (pe_ix ix_tup (pv 0) pe_int (fun _ _ => rfl)) (pa_cons (pe_bltn rfl T.str boot_str (v := .ty "str") rfl) pa_nil))))) (pw_or1 (pt_cmpR (op_notIn_kd kd) (pe_ix ix_tup (pv 0) pe_int (fun _ _ => rfl)) (pe_glob rfl D.forms (v := .ref (He.ga K "FORMS")) rfl) (by rfl)))))))
        (pss_one (ps_ret pe_bl))
        pss_nil)
      (pss_cons (ps_set (i := 1) scis_instruction.nd rfl (Or.inl rfl) (EX2.pe_kd kd (pe_glob rfl D.forms (v := .ref (He.ga K "FORMS")) rfl) (pe_ix ix_tup (pv 0) pe_int (fun _ _ => rfl)) (fun _ _ => rfl)))
      (pss_cons (ps_if (PW.pt (pw_or (pt_cmpR op_ne (pe_callB call_len rfl T.len boot_len (pa_cons (pv 0) pa_nil)) (pe_op op_add (pe_callB call_len rfl T.len boot_len (pa_cons (pv 1) pa_nil)) pe_int) (nomark _)) (pw_or1 (pt_not (pt_val (pe_callB (cr_all rfl) rfl T.all boot_all (pa_cons (pe_lc (own := [("sign", 2), ("item", 3)]) (g := gTup K 2 (gCons (gName 2) (gCons (gName 3) gNil))) (tt := tYes) rfl scis_instruction.nd (ZS.pi_zipS rfl T.zip (pa_cons (pv 1) (pa_cons (pe_slice sl_tup (pv 0) (po_some pe_int) po_none) pa_nil))) (blkOk_by (N := nis_instruction) (sc := defScope sis_instruction) (by decide +kernel)) (fun _ _ _ _ _ => (pg_tup rfl (pgs_cons (pg_name (i := 2) scis_instruction.nd rfl (Or.inl rfl)) (pgs_cons (pg_name (i := 3) scis_instruction.nd rfl (Or.inl rfl)) pgs_nil)))) (fun _ _ _ _ _ => pts_nil) (fun _ _ _ _ _ => (pe_call Gfits (hr.mono (by decide)) rfl gfits Ffits.kp bfits .nil pass0 (pa_cons (pv 2) (pa_cons (pv 3) pa_nil))))) pa_nil)))))))
        (pss_one (ps_ret pe_bl))
        pss_nil)
      (pss_one (ps_ret (pe_or (pe_cmpR op_notIn_seq (pe_ix ix_tup (pv 0) pe_int (fun _ _ => rfl)) (pe_tup (pa_cons pe_str (pa_cons pe_str pa_nil))) (by rfl)) (pe_one (pe_cmpR op_eq (pe_callB call_len rfl T.len boot_len (pa_cons (pe_ix ix_tup (pv 0) pe_int (fun _ _ => rfl)) pa_nil)) (pe_callB call_len rfl T.len boot_len (pa_cons (pe_ix ix_tup (pv 0) pe_int (fun _ _ => rfl)) pa_nil)) (nomark _))))))))), ?_⟩
  refine ⟨_, rfl, _, _, _, _, _, rfl, .ty "tuple", ty_of hd, kit_ty (kit_tupD d), _, rfl, ?_⟩
  have q0 := hQ H (Evl.Ex.refl H)
  cases d with
  | tuple ds =>
    obtain ⟨a, xs, rfl, ha, hall⟩ := hd.tupI
    refine iteF ⟨_, rfl, Nat.zero_le _, fun p0 hp0 => ?_⟩
    have e0 := Evl.Ex.new (o := .tup []) hp0
    refine ⟨_, _, xs, rfl, rfl, SqT.of (e0 _ _ ha), SqT.of upd_same, _, rfl, ?_⟩
    cases ds with
    | nil =>
      cases hall
      exact iteT (hQ _ e0)
    | cons d0 ds =>
      cases hall with
      | @cons x0 xs _ _ h0 ht =>
      have hd1 := e0 _ _ ha
      have h01 := h0.ext e0
      have ht1 := ht.ext e0
      have q1 : ∀ H', Evl.Ex (upd H p0 (.tup [])) H' → Q (.bl (insD (.tuple (d0 :: ds)))) H' := fun H' e => hQ H' (e0.trans e)
      generalize (upd H p0 (.tup [])) = H1 at hd1 h01 ht1 q1
      refine iteF ⟨_, rfl, _, _, 0, x0, rfl, rfl, SqT.of hd1, at0, _, _, _, _, _, rfl, .ty "str", ty_of h01, kit_ty (kit_strD d0), _, rfl, ?_⟩
      cases d0 with
      | str z =>
        cases h01
        have hkd : okD (.str z) = true ∧ okAll ds = true := by
          simp only [okD, okAll, Bool.and_eq_true] at hk ⊢
          exact hk
        refine iteF ⟨_, rfl, _, _, 0, .str z, rfl, rfl, SqT.of hd1, at0, ?_⟩
        rcases D.look z with ⟨fm, tk, hl, hns⟩ | ⟨hl, hns⟩
        · have hins : insD (.tuple (.str z :: ds)) = ((decide (ds.length = fm.length) && (List.range fm.length).all fun i => fitsC (fm.cps.toList.getD i 0) (ds.getD i .none)) && (!(z == "call" || z == "ask") || decide (lenD (ds.getD 4 .none) = lenD (ds.getD 6 .none)))) := by
            show insT z ds = _
            unfold insT
            rw [hl]
          rw [hins] at q1
          obtain ⟨hf1, hf2, hf3⟩ := forms_ok _ (lookup_mem hl)
          dsimp only at hf1 hf2 hf3
          refine ⟨z, _, rfl, rfl, hns, _, rfl, iteF ?_⟩
          refine ⟨_, rfl, _, _, 0, .str z, rfl, rfl, SqT.of hd1, at0, z, _, .str fm, rfl, rfl, hns, ⟨tk, rfl⟩, ?_⟩
          have hl1 : xs.length = ds.length := EX2.DqAll.length ht1
          refine ⟨_, rfl, _, _, rfl, .inr ⟨_, SqT.of hd1, rfl⟩, _, rfl, _, _, rfl, ⟨le_line (Nat.le_trans hf1 (by decide)), rfl⟩, _, _, rfl, rfl, rfl, _, rfl, ?_⟩
          by_cases hlen : ds.length = fm.length
          · have elen : (!decide (V.int ((V.str z :: xs).length : Nat) = V.int ((fm.length : Nat) + 1))) = false := by
              rw [decide_eq_true]
              · rfl
              · rw [List.length_cons, hl1, hlen]; rfl
            rw [elen]
            refine iteF ⟨_, rfl, _, rfl, 1, rfl, _, _, rfl, SqT.of hd1, ?_, fun p1 hp1 => ?_⟩
            · rw [(cut1 _ _).2]
              omega
            rw [(cut1 _ _).1]
            have e1 := Evl.Ex.new (o := .tup xs) hp1
            refine ⟨fm, p1, xs, rfl, hf2, SqT.of upd_same, fun D hD => ?_⟩
            have hp1s : (upd H1 p1 (.tup xs)) p1 = some (.tup xs) := upd_same
            refine EX2.lc_map (ZS.walk_zipS (z := fm) (ys := xs) (n := fm.length) ?_) hD (fun H' e => SqT.of (e _ _ hp1s)) (fun i => .bl (fitsC (fm.cps.toList.getD i 0) (ds.getD i .none))) (Nat.le_trans hf1 (by decide)) ?_ ?_ ?_
            · show fm.cps.size = _
              rw [hl1, hlen]
              exact (Nat.min_self _).symm
            · rintro j H3 x H4 _ _ ⟨T, x1, y1, rfl, hT, rfl, _⟩
              exact Evl.Ex.new hT
            · rintro j x H3 H4 hj e3 e4 ⟨T0, x1, y1, rfl, hT, rfl, hx1, hy1⟩ Qt hQt
              obtain ⟨c, hc, rfl⟩ : ∃ c, fm.cps[j]? = some c ∧ x1 = .str ⟨#[c]⟩ := by
                have hx1 : (fm.cps[j]?.map fun c => V.str ⟨#[c]⟩) = some x1 := hx1
                cases hz : fm.cps[j]? with
                | none => rw [hz] at hx1; cases hx1
                | some c => rw [hz] at hx1; exact ⟨c, rfl, (Option.some.inj hx1).symm⟩
              obtain ⟨dj, hdj, hxj⟩ := ht1.get hy1
              have hkj : okD dj = true := okAll_mem hkd.2 dj (List.mem_of_getElem? hdj)
              have eg1 : fm.cps.toList.getD j 0 = c := by rw [List.getD_eq_getElem?_getD, Array.getElem?_toList, hc]; rfl
              have eg2 : ds.getD j .none = dj := by rw [List.getD_eq_getElem?_getD, hdj]; rfl
              rw [eg1, eg2] at hQt
              refine ⟨T0, _, rfl, SqT.of upd_same, rfl, _, _, rfl, _, _, rfl, rfl, ?_⟩
              exact ⟨rfl, _, rfl, _, rfl, c, y1, dj, rfl, hxj.ext (e1.trans e4), hkj, hQt⟩
            · intro H3 e3 hD3
              refine ⟨D, (List.range fm.length).map fun i => fitsC (fm.cps.toList.getD i 0) (ds.getD i .none), rfl, SqL.of ?_, ?_⟩
              · rw [hD3, List.map_map]
                rfl
              rw [List.all_map, show (id ∘ fun i => fitsC (fm.cps.toList.getD i 0) (ds.getD i .none)) = fun i => fitsC (fm.cps.toList.getD i 0) (ds.getD i .none) from rfl]
              have q3 : ∀ H', Evl.Ex H3 H' → _ := fun H' e => q1 H' ((e1.trans e3).trans e)
              rw [decide_eq_true hlen, Bool.true_and] at q3
              have hd3 := (e1.trans e3) _ _ hd1
              have ht3 := ht1.ext (e1.trans e3)
              cases hall2 : (List.range fm.length).all fun i => fitsC (fm.cps.toList.getD i 0) (ds.getD i .none) with
              | false =>
                rw [hall2, Bool.false_and] at q3
                exact ⟨_, rfl, iteT (q3 _ (Evl.Ex.refl _))⟩
              | true =>
                rw [hall2, Bool.true_and] at q3
                refine ⟨_, rfl, iteF ?_⟩
                refine ⟨_, rfl, _, _, 0, .str z, rfl, rfl, SqT.of hd3, at0, le_line (by simp), fun t4 ht4 => ⟨t4, _, rfl, .inr (SqT.of upd_same), rfl, rfl, _, rfl, ?_⟩⟩
                have e4 := Evl.Ex.new (o := .tup [.str "call", .str "ask"]) ht4
                have q4 := fun H' e => q3 H' (e4.trans e)
                have hd4 := e4 _ _ hd3
                have ht4' := ht3.ext e4
                show (if (!inV (.str z) [.str "call", .str "ask"]) = true then _ else _)
                rw [inV2]
                generalize (upd H3 t4 (.tup [.str "call", .str "ask"])) = H4 at q4 hd4 ht4'
                cases hca : (z == "call" || z == "ask") with
                | false =>
                  rw [hca] at q4
                  exact iteT (q4 _ (Evl.Ex.refl _))
                | true =>
                  rw [hca] at q4
                  have hz : z = "call" ∨ z = "ask" := by
                    rw [Bool.or_eq_true, beq_iff_eq, beq_iff_eq] at hca
                    exact hca
                  have hfm := hf3 hz
                  subst hfm
                  have l7 : ds.length = 7 := hlen
                  rw [List.all_eq_true] at hall2
                  have h4 := hall2 4 (by decide +kernel)
                  have h6 := hall2 6 (by decide +kernel)
                  rw [show ("rrcfytx" : Str).cps.toList.getD 4 0 = 121 from by decide +kernel] at h4
                  rw [show ("rrcfytx" : Str).cps.toList.getD 6 0 = 120 from by decide +kernel] at h6
                  obtain ⟨l4, e5⟩ := fits_tup (.inr rfl) h4
                  obtain ⟨l6, e6⟩ := fits_tup (.inl rfl) h6
                  have g4 : ds[4]? = some (.tuple l4) := by
                    rw [List.getD_eq_getElem?_getD, List.getElem?_eq_getElem (by omega)] at e5
                    rw [List.getElem?_eq_getElem (by omega)]
                    exact congrArg some e5
                  have g6 : ds[6]? = some (.tuple l6) := by
                    rw [List.getD_eq_getElem?_getD, List.getElem?_eq_getElem (by omega)] at e6
                    rw [List.getElem?_eq_getElem (by omega)]
                    exact congrArg some e6
                  obtain ⟨x4, gx4, dx4⟩ := ht4'.getD g4
                  obtain ⟨x6, gx6, dx6⟩ := ht4'.getD g6
                  obtain ⟨a4, ys4, rfl, ha4, hal4⟩ := dx4.tupI
                  obtain ⟨a6, ys6, rfl, ha6, hal6⟩ := dx6.tupI
                  refine iteF ⟨_, rfl, _, _, 5, .ref a4, rfl, rfl, SqT.of hd4, atI_nat (j := 5) gx4, _, _, rfl, .inr ⟨_, SqT.of ha4, rfl⟩, _, rfl, _, _, 7, .ref a6, rfl, rfl, SqT.of hd4, atI_nat (j := 7) gx6, _, _, rfl, .inr ⟨_, SqT.of ha6, rfl⟩, rfl, ?_⟩
                  have q5 := q4 _ (Evl.Ex.refl _)
                  rw [e5, e6] at q5
                  rw [EX2.DqAll.length hal4, EX2.DqAll.length hal6]
                  rw [show decide (V.int ((l4.length : Nat) : Int) = V.int ((l6.length : Nat) : Int)) = decide (l4.length = l6.length) from decide_eq_decide.mpr ⟨fun e => by have := V.int.inj e; omega, fun e => by rw [e]⟩]
                  exact q5
          · have elen : (!decide (V.int ((V.str z :: xs).length : Nat) = V.int ((fm.length : Nat) + 1))) = true := by
              rw [decide_eq_false]
              · rfl
              · rw [List.length_cons, hl1]; intro e; apply hlen; have := V.int.inj e; omega
            rw [elen]
            rw [decide_eq_false hlen, Bool.false_and, Bool.false_and] at q1
            exact iteT (q1 _ (Evl.Ex.refl _))
        · have hins : insD (.tuple (.str z :: ds)) = false := by
            show insT z ds = _
            unfold insT
            rw [hl]
          rw [hins] at q1
          exact ⟨z, _, rfl, rfl, hns, _, rfl, iteT (q1 _ (Evl.Ex.refl _))⟩
      | _ => exact iteT (q1 _ (Evl.Ex.refl _))
  | _ => exact iteT q0
end
end K03
set_option Elab.async false
set_option linter.all false
set_option maxRecDepth 100000
set_option maxHeartbeats 0
namespace K03
open PySem PySem.Spec PyProof.Rows L2 EX2
/-! ### what is drawn -/
theorem inR_int (lo hi i : Int) : inR lo hi (.int i) = (decide (lo ≤ i) && decide (i ≤ hi)) := rfl
def spDr : Sp := fun vs H Q _ => ∃ (p : Addr) (m : Int), vs = [.ref p, .int m] ∧ Sc p H ∧ 0 < m ∧ m < 1073741824 ∧ ∀ d H', 0 ≤ d → d < m → Lx p H H' → Q (.int d) H'
def spPick : Sp := fun vs H Q _ => ∃ (p l : Addr) (xs : List V), vs = [.ref p, .ref l] ∧ Sc p H ∧ l ≠ p ∧ H l = some (.lst xs) ∧ xs ≠ [] ∧ xs.length ≤ 1000 ∧ ∀ x H', x ∈ xs → Lx p H H' → Q x H'
def tyS : List Str := ["a", "a[]", "b", "b[]", "c", "c[]", "top", "top[]"]
def spTy : Sp := fun vs H Q _ => ∃ (p : Addr), vs = [.ref p] ∧ Sc p H ∧ ∀ z H', z ∈ tyS → Lx p H H' → Q (.str z) H'
theorem tyS_ok : ∀ z ∈ tyS, isNm (nmOf z) = true ∧ z.length ≤ 5 ∧ PyData.strOk z = true := by decide +kernel
section
variable {P : Program} {w : World} {K : PySem.W.Frag} {mg : Str → Option Value} {base : Heap} {f : Addr} {fd : FuncData}
theorem okL_draw (F : FnP K "_law_draw" sDraw f fd) (D : Defs w K mg) : FnOk P w K mg base CX0 1 f fd ["_law_source_here", "_law_amount"] spDr := by
  refine (ok_draw F D.t).imp ?_
  rintro vs H Q E ⟨p, m, rfl, ⟨N, S, hp, h1, h2, h3⟩, m0, m1, q⟩
  exact ⟨p, N, S, m, rfl, hp, h1, h2, h3, m0, m1, fun d N' S' a b c e f => q d _ a b ⟨by rw [rm_same]; exact .refl _, N', S', upd_same, c, e, f⟩⟩
abbrev npick : List Str := ["_law_source_here", "_law_items"]
theorem scpick : FnScope npick ["_law_source_here", "_law_items"] (defScope spick) := ⟨rfl, rfl, rfl, by decide +kernel, rfl, by decide +kernel, by decide +kernel⟩
theorem ok_pick (F : FnP K "_law_pick" spick f fd) (D : Defs w K mg) : FnOk P w K mg base CX0 2 f fd ["_law_source_here", "_law_items"] spPick := by
  have T := D.t
  obtain ⟨fD, fdD, gD, FD⟩ := D.draw
  have GD : FnOk P w K mg base CX0 1 fD fdD ["_law_source_here", "_law_amount"] spDr := okL_draw FD D
  have bD : Binds K fdD ["_law_source_here", "_law_amount"] [] := FD.bindsN fun _ _ _ _ _ _ us hl => match us, hl with | [_, _], _ => rfl
  refine F.ok scpick (fun vs H Q E h => ?_) (fun cdv A outer s H vs Q E hr h => ?_)
  · obtain ⟨p, l, xs, rfl, _⟩ := h
    rfl
  · obtain ⟨p, l, xs, rfl, hs, hlp, hl, hne, hlen, hQ⟩ := h
    refine ⟨_, PSs.nox (pss_one (ps_ret (pe_ix ix_list (pv 1) (pe_call GD hr rfl gD FD.kp bD .nil pass0 (pa_cons (pv 0) (pa_cons (pe_callB call_len rfl T.len boot_len (pa_cons (pv 1) pa_nil)) pa_nil))) (fun _ _ => rfl)))), ?_⟩
    have h0 : 0 < xs.length := List.length_pos_iff.mpr hne
    refine ⟨_, rfl, _, rfl, _, rfl, _, _, rfl, .inl ⟨_, SqL.of hl, rfl⟩, p, _, rfl, hs, by omega, by omega, fun d H' d0 d1 lx => ?_⟩
    obtain ⟨k, rfl⟩ := Int.eq_ofNat_of_zero_le d0
    have hk : k < xs.length := by omega
    exact ⟨l, xs, _, xs[k], rfl, rfl, SqL.of (lx.at hl hlp), atI_nat (List.getElem?_eq_getElem hk), hQ _ _ (List.getElem_mem hk) lx⟩
abbrev ntypeL : List Str := ["_law_source_here"]
theorem sctypeL : FnScope ntypeL ["_law_source_here"] (defScope stypeL) := ⟨rfl, rfl, rfl, by decide +kernel, rfl, by decide +kernel, by decide +kernel⟩
theorem ty_cat : ∀ x ∈ ([.str "a", .str "b", .str "c", .str "top"] : List V), ∀ y ∈ ([.str "", .str "", .str "", .str "[]"] : List V), ∃ a b, x = .str a ∧ y = .str b ∧ a ++ b ∈ tyS ∧ a.length + b.length ≤ 10 := by
  intro x hx y hy
  simp only [List.mem_cons, List.not_mem_nil, or_false] at hx hy
  rcases hx with rfl | rfl | rfl | rfl <;> rcases hy with rfl | rfl | rfl | rfl <;> exact ⟨_, _, rfl, rfl, by decide +kernel, by decide +kernel⟩
theorem ok_typeL (F : FnP K "_law_type" stypeL f fd) (D : Defs w K mg) : FnOk P w K mg base CX0 3 f fd ["_law_source_here"] spTy := by
  have T := D.t
  obtain ⟨fP, fdP, gP, FP⟩ := D.pick
  have GP : FnOk P w K mg base CX0 2 fP fdP ["_law_source_here", "_law_items"] spPick := ok_pick FP D
  have bP : Binds K fdP ["_law_source_here", "_law_items"] [] := FP.bindsN fun _ _ _ _ _ _ us hl => match us, hl with | [_, _], _ => rfl
  refine F.ok sctypeL (fun vs H Q E h => ?_) (fun cdv A outer s H vs Q E hr h => ?_)
  · obtain ⟨p, rfl, _⟩ := h
    rfl
  · obtain ⟨p, rfl, hs, hQ⟩ := h
    refine ⟨_, PSs.nox (pss_one (ps_ret (pe_op op_add_str (pe_call GP hr rfl gP FP.kp bP .nil pass0 (pa_cons (pv 0) (pa_cons (pe_lst (pa_cons pe_str (pa_cons pe_str (pa_cons pe_str (pa_cons pe_str pa_nil))))) pa_nil))) (pe_call GP hr rfl gP FP.kp bP .nil pass0 (pa_cons (pv 0) (pa_cons (pe_lst (pa_cons pe_str (pa_cons pe_str (pa_cons pe_str (pa_cons pe_str pa_nil))))) pa_nil)))))), ?_⟩
    refine ⟨_, rfl, le_line (by simp), fun l1 h1 => ⟨p, l1, _, rfl, hs.ex (Evl.Ex.new h1), hs.ne h1, upd_same, by simp, by simp, fun x H2 hx lx => ?_⟩⟩
    refine ⟨_, rfl, le_line (by simp), fun l2 h2 => ⟨p, l2, _, rfl, lx.sc.ex (Evl.Ex.new h2), lx.sc.ne h2, upd_same, by simp, by simp, fun y H3 hy lx2 => ?_⟩⟩
    obtain ⟨a, b, rfl, rfl, hm, hl⟩ := ty_cat x hx y hy
    exact ⟨a, b, rfl, rfl, le_line (by omega), hQ _ _ hm (((Lx.of hs (Evl.Ex.new h1)).trans lx).trans ((Lx.of lx.sc (Evl.Ex.new h2)).trans lx2))⟩
end
end K03
set_option Elab.async false
set_option linter.all false
set_option maxRecDepth 100000
set_option maxHeartbeats 0
namespace K03
open PySem PySem.Spec PyProof.Rows L2 EX2
structure CallP (m : Int) (fn : Str) (ks : List PyData) (t : Str) (as : List PyData) : Prop where
  fn : fn = "f" ∨ fn = "g"
  kl : ks.length ≤ 2
  al : as.length = ks.length
  ks : ∀ k ∈ ks, ∃ z ∈ tyS, k = .str z
  t : t ∈ tyS
  as : ∀ a ∈ as, ∃ i, a = .int i ∧ 0 ≤ i ∧ i < m
def spCall : Sp := fun vs H Q _ => ∃ (p : Addr) (m : Int), vs = [.ref p, .int m] ∧ Sc p H ∧ 0 < m ∧ m ≤ 10 ∧
  ∀ x fn ks t as H', Lx p H H' → Dz p H' x (.tuple [.str fn, .tuple ks, .str t, .tuple as]) → CallP m fn ks t as → Q x H'
theorem mem_of_get {R : PyData → Prop} {ds : List PyData} (h : ∀ (i : Nat) d, ds[i]? = some d → R d) : ∀ d ∈ ds, R d := fun d hd => by
  obtain ⟨i, hi⟩ := List.mem_iff_getElem?.mp hd
  exact h i d hi
section
variable {P : Program} {w : World} {K : PySem.W.Frag} {mg : Str → Option Value} {base : Heap} {f : Addr} {fd : FuncData}
abbrev ncall : List Str := ["_law_source_here", "_law_size", "_law_many", "_law_kinds", "_law_args", "_law_part"]
theorem sccall : FnScope ncall ["_law_source_here", "_law_size"] (defScope scall) := ⟨rfl, rfl, rfl, by decide +kernel, rfl, by decide +kernel, by decide +kernel⟩
theorem ok_call (F : FnP K "_law_call" scall f fd) (D : Defs w K mg) : FnOk P w K mg base CX0 4 f fd ["_law_source_here", "_law_size"] spCall := by
  have T := D.t
  obtain ⟨fD, fdD, gD, FD⟩ := D.draw
  have GD : FnOk P w K mg base CX0 1 fD fdD ["_law_source_here", "_law_amount"] spDr := okL_draw FD D
  have bD : Binds K fdD ["_law_source_here", "_law_amount"] [] := FD.bindsN fun _ _ _ _ _ _ us hl => match us, hl with | [_, _], _ => rfl
  obtain ⟨fP, fdP, gP, FP⟩ := D.pick
  have GP : FnOk P w K mg base CX0 2 fP fdP ["_law_source_here", "_law_items"] spPick := ok_pick FP D
  have bP : Binds K fdP ["_law_source_here", "_law_items"] [] := FP.bindsN fun _ _ _ _ _ _ us hl => match us, hl with | [_, _], _ => rfl
  obtain ⟨fT, fdT, gT, FT⟩ := D.typeL
  have GT : FnOk P w K mg base CX0 3 fT fdT ["_law_source_here"] spTy := ok_typeL FT D
  have bT : Binds K fdT ["_law_source_here"] [] := FT.bindsN fun _ _ _ _ _ _ us hl => match us, hl with | [_], _ => rfl
  refine F.ok sccall (fun vs H Q E h => ?_) (fun cdv A outer s H vs Q E hr h => ?_)
  · obtain ⟨p, m, rfl, _⟩ := h
    rfl
  · obtain ⟨p, m, rfl, hs, hm0, hm1, hQ⟩ := h
    refine ⟨_, PSs.nox (pss_cons (ps_set (i := 2) sccall.nd rfl (Or.inl rfl) (pe_call GD (hr.mono (by decide)) rfl gD FD.kp bD .nil pass0 (pa_cons (pv 0) (pa_cons pe_int pa_nil))))
      (pss_cons (ps_set (i := 3) sccall.nd rfl (Or.inl rfl) (pe_callTy call_tuple_of rfl T.tup boot_tuple (pa_cons (pe_lc (own := [("_law_part", 5)]) (g := gName 5) (tt := tYes) rfl sccall.nd (pi_range1 rfl T.rng (pa_cons (pv 2) pa_nil)) (blkOk_by (N := ncall) (sc := defScope scall) (by decide +kernel)) (fun _ _ _ _ _ => (pg_name (i := 5) sccall.nd rfl (Or.inl rfl))) (fun _ _ _ _ _ => pts_nil) (fun _ _ _ _ _ => (pe_call GT (hr.mono (by decide)) rfl gT FT.kp bT .nil pass0 (pa_cons (pv 0) pa_nil)))) pa_nil)))
      (pss_cons (ps_set (i := 4) sccall.nd rfl (Or.inl rfl) (pe_callTy call_tuple_of rfl T.tup boot_tuple (pa_cons (pe_lc (own := [("_law_part", 5)]) (g := gName 5) (tt := tYes) rfl sccall.nd (pi_range1 rfl T.rng (pa_cons (pv 2) pa_nil)) (blkOk_by (N := ncall) (sc := defScope scall) (by decide +kernel)) (fun _ _ _ _ _ => (pg_name (i := 5) sccall.nd rfl (Or.inl rfl))) (fun _ _ _ _ _ => pts_nil) (fun _ _ _ _ _ => (pe_call GD (hr.mono (by decide)) rfl gD FD.kp bD .nil pass0 (pa_cons (pv 0) (pa_cons (pv 1) pa_nil))))) pa_nil)))
      (pss_one (ps_ret (pe_tup (pa_cons (pe_call GP (hr.mono (by decide)) rfl gP FP.kp bP .nil pass0 (pa_cons (pv 0) (pa_cons (pe_lst (pa_cons pe_str (pa_cons pe_str pa_nil))) pa_nil))) (pa_cons (pv 3) (pa_cons (pe_call GT (hr.mono (by decide)) rfl gT FT.kp bT .nil pass0 (pa_cons (pv 0) pa_nil)) (pa_cons (pv 4) pa_nil)))))))))), ?_⟩
    refine ⟨_, rfl, p, _, rfl, hs, by decide, by decide, fun k H1 k0 k1 lx1 => ?_⟩
    have hk3 : k.toNat ≤ 2 := by omega
    refine ⟨_, rfl, _, rfl, by omega, by omega, fun L1 hL1 => ?_⟩
    refine lc_lx walk_range lx1.sc hL1 (fun _ _ => trivial) (fun _ d => ∃ z ∈ tyS, d = .str z) (by omega) (fun j H2 x H3 y => y.1) ?_ ?_
    · rintro j x H2 hj lx2 _ Qt hQt
      exact ⟨rfl, _, rfl, p, rfl, lx2.sc, fun z H3 hz lx3 => hQt _ (.str z) H3 lx3 (.str z) rfl ⟨z, hz, rfl⟩⟩
    intro H2 xs1 ks lx2 hL1s hks hkl hkn hkR
    refine ⟨L1, xs1, rfl, .inl ⟨SqL.of hL1s, fun a1 ha1 => ?_⟩⟩
    have lx3 := (lx1.trans lx2).then (Evl.Ex.new (o := .tup xs1) ha1)
    have d1 : Dz p (upd H2 a1 (.tup xs1)) (.ref a1) (.tuple ks) := Dz.tupN lx2.sc ha1 hks
    generalize (upd H2 a1 (.tup xs1)) = H3 at lx3 d1
    refine ⟨_, rfl, _, rfl, by omega, by omega, fun L2 hL2 => ?_⟩
    refine lc_lx walk_range lx3.sc hL2 (fun _ _ => trivial) (fun _ d => ∃ i, d = .int i ∧ 0 ≤ i ∧ i < m) (by omega) (fun j H2 x H3 y => y.1) ?_ ?_
    · rintro j x H4 hj lx4 _ Qt hQt
      exact ⟨rfl, _, rfl, _, rfl, p, m, rfl, lx4.sc, hm0, by omega, fun i H5 i0 i1 lx5 => hQt _ (.int i) H5 lx5 (.int i) rfl ⟨i, rfl, i0, i1⟩⟩
    intro H4 xs2 as lx4 hL2s has hal han haR
    refine ⟨L2, xs2, rfl, .inl ⟨SqL.of hL2s, fun a2 ha2 => ?_⟩⟩
    have e5 := Evl.Ex.new (o := .tup xs2) ha2
    have lx5 := (lx3.trans lx4).then e5
    have d2 : Dz p (upd H4 a2 (.tup xs2)) (.ref a2) (.tuple as) := Dz.tupN lx4.sc ha2 has
    have d1' := (d1.lx lx4).lx (.of lx4.sc e5)
    generalize (upd H4 a2 (.tup xs2)) = H5 at lx5 d2 d1'
    refine ⟨_, rfl, le_line (by simp), fun l1 h1 => ⟨p, l1, _, rfl, lx5.sc.ex (Evl.Ex.new h1), lx5.sc.ne h1, upd_same, by simp, by simp, fun x H6 hx lx6 => ?_⟩⟩
    have lx67 := (Lx.of lx5.sc (Evl.Ex.new h1)).trans lx6
    refine ⟨_, rfl, _, rfl, p, rfl, lx6.sc, fun t H7 ht lx7 => ⟨_, rfl, le_line (by simp), fun a9 ha9 => ?_⟩⟩
    have lx57 := lx67.trans lx7
    obtain ⟨fn, rfl, hfn⟩ : ∃ fn, x = .str fn ∧ (fn = "f" ∨ fn = "g") := by
      simp only [List.mem_cons, List.not_mem_nil, or_false] at hx
      rcases hx with rfl | rfl
      · exact ⟨_, rfl, .inl rfl⟩
      · exact ⟨_, rfl, .inr rfl⟩
    refine hQ _ fn ks t as _ ((lx5.trans lx57).then (Evl.Ex.new ha9)) (Dz.tupN lx7.sc ha9 (.cons (.str _) (.cons (d1'.lx lx57) (.cons (.str _) (.cons (d2.lx lx57) .nil))))) ⟨hfn, by omega, by omega, mem_of_get (fun i d h => hkR i d h), ht, mem_of_get (fun i d h => haR i d h)⟩
end
end K03
set_option Elab.async false
set_option linter.all false
set_option maxRecDepth 100000
set_option maxHeartbeats 0
namespace K03
open PySem PySem.Spec PyProof.Rows L2 EX2
def nm4 : List Str := ["a", "b", "c", "top"]
theorem nm4_ok : ∀ z ∈ nm4, isNm z = true ∧ z.length ≤ 5 ∧ PyData.strOk z = true := by decide +kernel
/-- drawers and targets -/
def itemsD : PyData → List PyData
  | .tuple ds => ds
  | _ => []
def drawT (fm : Str) (ds : List PyData) : List PyData := (List.range fm.length).flatMap fun i => if fm.cps.toList.getD i 0 = 114 then [ds.getD i .none] else if fm.cps.toList.getD i 0 = 120 then itemsD (ds.getD i .none) else []
def tgtT (fm : Str) (ds : List PyData) : List PyData := (List.range fm.length).flatMap fun i => if fm.cps.toList.getD i 0 = 106 then [ds.getD i .none] else []
def drawD : PyData → List PyData
  | .tuple (.str z :: ds) => match K03.forms.lookup z with
    | some fm => drawT fm ds
    | none => []
  | _ => []
def tgtD : PyData → List PyData
  | .tuple (.str z :: ds) => match K03.forms.lookup z with
    | some fm => tgtT fm ds
    | none => []
  | _ => []
def ltD (m : Int) : PyData → Bool
  | .int i => decide (i < m)
  | _ => false
/-- the instructions that are made -/
inductive InsP (m n : Int) : PyData → Prop
  | new (r : Int) (c : Str) (r0 : 0 ≤ r) (r1 : r < m) (hc : c ∈ nm4) : InsP m n (.tuple [.str "new", .int r, .str c])
  | array (r : Int) (c : Str) (k : Int) (r0 : 0 ≤ r) (r1 : r < m) (hc : c ∈ nm4) (k0 : 0 ≤ k) (k1 : k ≤ 9) : InsP m n (.tuple [.str "array", .int r, .str c, .int k])
  | null (r : Int) (r0 : 0 ≤ r) (r1 : r < m) : InsP m n (.tuple [.str "null", .int r])
  | move (r s : Int) (r0 : 0 ≤ r) (r1 : r < m) (s0 : 0 ≤ s) (s1 : s < m) : InsP m n (.tuple [.str "move", .int r, .int s])
  | get (r s : Int) (c t : Str) (r0 : 0 ≤ r) (r1 : r < m) (s0 : 0 ≤ s) (s1 : s < m) (hc : c ∈ nm4) (ht : t ∈ tyS) : InsP m n (.tuple [.str "get", .int r, .int s, .str c, .str "f", .str t])
  | put (r s : Int) (c t : Str) (r0 : 0 ≤ r) (r1 : r < m) (s0 : 0 ≤ s) (s1 : s < m) (hc : c ∈ nm4) (ht : t ∈ tyS) : InsP m n (.tuple [.str "put", .int r, .str c, .str "f", .str t, .int s])
  | call (r s : Int) (c : Str) (fn : Str) (ks : List PyData) (t : Str) (as : List PyData) (r0 : 0 ≤ r) (r1 : r < m) (s0 : 0 ≤ s) (s1 : s < m) (hc : c ∈ nm4) (hp : CallP m fn ks t as) : InsP m n (.tuple [.str "call", .int r, .int s, .str c, .str fn, .tuple ks, .str t, .tuple as])
  | ask (r s : Int) (c : Str) (fn : Str) (ks : List PyData) (t : Str) (as : List PyData) (r0 : 0 ≤ r) (r1 : r < m) (s0 : 0 ≤ s) (s1 : s < m) (hc : c ∈ nm4) (hp : CallP m fn ks t as) : InsP m n (.tuple [.str "ask", .int r, .int s, .str c, .str fn, .tuple ks, .str t, .tuple as])
  | cast (r s : Int) (c : Str) (r0 : 0 ≤ r) (r1 : r < m) (s0 : 0 ≤ s) (s1 : s < m) (hc : c ∈ nm4) : InsP m n (.tuple [.str "cast", .int r, .int s, .str c])
  | load (r s : Int) (r0 : 0 ≤ r) (r1 : r < m) (s0 : 0 ≤ s) (s1 : s < m) : InsP m n (.tuple [.str "load", .int r, .int s, .int 1])
  | store (r s : Int) (r0 : 0 ≤ r) (r1 : r < m) (s0 : 0 ≤ s) (s1 : s < m) : InsP m n (.tuple [.str "store", .int r, .int 0, .int s])
  | jump (t : Int) (t0 : 0 ≤ t) (t1 : t < n) : InsP m n (.tuple [.str "jump", .int t])
  | ifnull (r t : Int) (r0 : 0 ≤ r) (r1 : r < m) (t0 : 0 ≤ t) (t1 : t < n) : InsP m n (.tuple [.str "ifnull", .int r, .int t])
  | ifis (r : Int) (c : Str) (t : Int) (r0 : 0 ≤ r) (r1 : r < m) (hc : c ∈ nm4) (t0 : 0 ≤ t) (t1 : t < n) : InsP m n (.tuple [.str "ifis", .int r, .str c, .int t])
  | choose (t : Int) (t0 : 0 ≤ t) (t1 : t < n) : InsP m n (.tuple [.str "choose", .int t])
  | tell (r : Int) (r0 : 0 ≤ r) (r1 : r < m) : InsP m n (.tuple [.str "tell", .int r])
  | ret (r : Int) (r0 : 0 ≤ r) (r1 : r < m) : InsP m n (.tuple [.str "return", .int r])
section
variable {m n : Int} {d : PyData}
theorem fR {r : Int} (h0 : 0 ≤ r) (h1 : r < m) (hm : m ≤ 10) : fitsC 114 (.int r) = true ∧ fitsC 110 (.int r) = true := by
  have : inR 0 9 (.int r) = true := by rw [inR_int]; simp; omega
  exact ⟨this, this⟩
theorem fC {c : Str} (h : c ∈ nm4) : fitsC 99 (.str c) = true := (nm4_ok c h).1
theorem fT {t : Str} (h : t ∈ tyS) : fitsC 116 (.str t) = true := (tyS_ok t h).1
theorem fJ {t : Int} (h0 : 0 ≤ t) (h1 : t < n) (hn : n ≤ 40) : fitsC 106 (.int t) = true := by
  have : inR 0 39 (.int t) = true := by rw [inR_int]; simp; omega
  exact this
theorem fF {fn : Str} (h : fn = "f" ∨ fn = "g") : fitsC 102 (.str fn) = true := by rcases h with rfl | rfl <;> decide +kernel
theorem fY {ks : List PyData} (hl : ks.length ≤ 2) (h : ∀ k ∈ ks, ∃ z ∈ tyS, k = .str z) : fitsC 121 (.tuple ks) = true := by
  show (decide (ks.length ≤ 4) && ks.all (elC 121)) = true
  rw [decide_eq_true (by omega), Bool.true_and, List.all_eq_true]
  intro k hk
  obtain ⟨z, hz, rfl⟩ := h k hk
  exact (tyS_ok z hz).1
theorem fX {as : List PyData} (hm : m ≤ 10) (hl : as.length ≤ 2) (h : ∀ a ∈ as, ∃ i, a = .int i ∧ 0 ≤ i ∧ i < m) : fitsC 120 (.tuple as) = true := by
  show (decide (as.length ≤ 4) && as.all (elC 120)) = true
  rw [decide_eq_true (by omega), Bool.true_and, List.all_eq_true]
  intro k hk
  obtain ⟨z, rfl, h0, h1⟩ := h k hk
  exact (fR h0 h1 hm).1
theorem InsP.ins (hm : m ≤ 10) (hn : n ≤ 40) (h : InsP m n d) : insD d = true := by
  cases h with
  | new r c r0 r1 hc => show ((true && (fitsC 114 (.int r) && (fitsC 99 (.str c) && true))) && true) = true; rw [(fR r0 r1 hm).1, fC hc]; rfl
  | array r c k r0 r1 hc k0 k1 => show ((true && (fitsC 114 (.int r) && (fitsC 99 (.str c) && (fitsC 110 (.int k) && true)))) && true) = true; rw [(fR r0 r1 hm).1, fC hc, (fR k0 (by omega : k < 10) (by decide)).2]; rfl
  | null r r0 r1 => show ((true && (fitsC 114 (.int r) && true)) && true) = true; rw [(fR r0 r1 hm).1]; rfl
  | move r s r0 r1 s0 s1 => show ((true && (fitsC 114 (.int r) && (fitsC 114 (.int s) && true))) && true) = true; rw [(fR r0 r1 hm).1, (fR s0 s1 hm).1]; rfl
  | get r s c t r0 r1 s0 s1 hc ht => show ((true && (fitsC 114 (.int r) && (fitsC 114 (.int s) && (fitsC 99 (.str c) && (fitsC 102 (.str "f") && (fitsC 116 (.str t) && true)))))) && true) = true; rw [(fR r0 r1 hm).1, (fR s0 s1 hm).1, fC hc, fF (fn := "f") (.inl rfl), fT ht]; rfl
  | put r s c t r0 r1 s0 s1 hc ht => show ((true && (fitsC 114 (.int r) && (fitsC 99 (.str c) && (fitsC 102 (.str "f") && (fitsC 116 (.str t) && (fitsC 114 (.int s) && true)))))) && true) = true; rw [(fR r0 r1 hm).1, fC hc, fF (fn := "f") (.inl rfl), fT ht, (fR s0 s1 hm).1]; rfl
  | cast r s c r0 r1 s0 s1 hc => show ((true && (fitsC 114 (.int r) && (fitsC 114 (.int s) && (fitsC 99 (.str c) && true)))) && true) = true; rw [(fR r0 r1 hm).1, (fR s0 s1 hm).1, fC hc]; rfl
  | load r s r0 r1 s0 s1 => show ((true && (fitsC 114 (.int r) && (fitsC 114 (.int s) && (fitsC 110 (.int 1) && true)))) && true) = true; rw [(fR r0 r1 hm).1, (fR s0 s1 hm).1, (fR (m := 10) (r := 1) (by decide) (by decide) (by decide)).2]; rfl
  | store r s r0 r1 s0 s1 => show ((true && (fitsC 114 (.int r) && (fitsC 110 (.int 0) && (fitsC 114 (.int s) && true)))) && true) = true; rw [(fR r0 r1 hm).1, (fR (m := 10) (r := 0) (by decide) (by decide) (by decide)).2, (fR s0 s1 hm).1]; rfl
  | jump t t0 t1 => show ((true && (fitsC 106 (.int t) && true)) && true) = true; rw [fJ t0 t1 hn]; rfl
  | ifnull r t r0 r1 t0 t1 => show ((true && (fitsC 114 (.int r) && (fitsC 106 (.int t) && true))) && true) = true; rw [(fR r0 r1 hm).1, fJ t0 t1 hn]; rfl
  | ifis r c t r0 r1 hc t0 t1 => show ((true && (fitsC 114 (.int r) && (fitsC 99 (.str c) && (fitsC 106 (.int t) && true)))) && true) = true; rw [(fR r0 r1 hm).1, fC hc, fJ t0 t1 hn]; rfl
  | choose t t0 t1 => show ((true && (fitsC 106 (.int t) && true)) && true) = true; rw [fJ t0 t1 hn]; rfl
  | tell r r0 r1 => show ((true && (fitsC 114 (.int r) && true)) && true) = true; rw [(fR r0 r1 hm).1]; rfl
  | ret r r0 r1 => show ((true && (fitsC 114 (.int r) && true)) && true) = true; rw [(fR r0 r1 hm).1]; rfl
  | call r s c fn ks t as r0 r1 s0 s1 hc hp => show ((true && (fitsC 114 (.int r) && (fitsC 114 (.int s) && (fitsC 99 (.str c) && (fitsC 102 (.str fn) && (fitsC 121 (.tuple ks) && (fitsC 116 (.str t) && (fitsC 120 (.tuple as) && true)))))))) && (!true || decide (ks.length = as.length))) = true; rw [(fR r0 r1 hm).1, (fR s0 s1 hm).1, fC hc, fF hp.fn, fY hp.kl hp.ks, fT hp.t, fX hm (by have := hp.al; have := hp.kl; omega) hp.as, decide_eq_true hp.al.symm]; rfl
  | ask r s c fn ks t as r0 r1 s0 s1 hc hp => show ((true && (fitsC 114 (.int r) && (fitsC 114 (.int s) && (fitsC 99 (.str c) && (fitsC 102 (.str fn) && (fitsC 121 (.tuple ks) && (fitsC 116 (.str t) && (fitsC 120 (.tuple as) && true)))))))) && (!true || decide (ks.length = as.length))) = true; rw [(fR r0 r1 hm).1, (fR s0 s1 hm).1, fC hc, fF hp.fn, fY hp.kl hp.ks, fT hp.t, fX hm (by have := hp.al; have := hp.kl; omega) hp.as, decide_eq_true hp.al.symm]; rfl
theorem ok_str {z : Str} (h : z.length ≤ 10 ∧ PyData.strOk z = true) : okD (.str z) = true := by
  simp only [okD, Bool.and_eq_true, decide_eq_true_eq]
  exact ⟨by omega, h.2⟩
theorem InsP.ok (h : InsP m n d) : okD d = true ∧ noL d = true := by
  have hc4 : ∀ c ∈ nm4, okD (.str c) = true := fun c hc => ok_str ⟨by have := (nm4_ok c hc).2.1; omega, (nm4_ok c hc).2.2⟩
  have ht8 : ∀ c ∈ tyS, okD (.str c) = true := fun c hc => ok_str ⟨by have := (tyS_ok c hc).2.1; omega, (tyS_ok c hc).2.2⟩
  have hS : ∀ z ∈ (["new", "array", "null", "move", "get", "put", "call", "ask", "cast", "load", "store", "jump", "ifnull", "ifis", "choose", "tell", "return", "f", "g"] : List Str), okD (.str z) = true := fun z hz => ok_str ((by decide +kernel : ∀ z ∈ (["new", "array", "null", "move", "get", "put", "call", "ask", "cast", "load", "store", "jump", "ifnull", "ifis", "choose", "tell", "return", "f", "g"] : List Str), z.length ≤ 10 ∧ PyData.strOk z = true) z hz)
  have hcall : ∀ fn ks t as, CallP m fn ks t as → okD (.str fn) = true ∧ okAll ks = true ∧ okD (.str t) = true ∧ okAll as = true ∧ noLs ks = true ∧ noLs as = true := fun fn ks t as hp => by
    refine ⟨?_, ?_, ht8 _ hp.t, ?_, ?_, ?_⟩
    · rcases hp.fn with rfl | rfl
      · exact hS _ (by decide +kernel)
      · exact hS _ (by decide +kernel)
    · exact okAll_of fun k hk => by obtain ⟨z, hz, rfl⟩ := hp.ks k hk; exact ht8 z hz
    · exact okAll_of fun k hk => by obtain ⟨z, rfl, _⟩ := hp.as k hk; rfl
    · exact noLs_of fun k hk => by obtain ⟨z, hz, rfl⟩ := hp.ks k hk; rfl
    · exact noLs_of fun k hk => by obtain ⟨z, rfl, _⟩ := hp.as k hk; rfl
  have hI : ∀ i : Int, okD (.int i) = true := fun _ => rfl
  cases h with
  | call r s c fn ks t as r0 r1 s0 s1 hc hp =>
    obtain ⟨a1, a2, a3, a4, a5, a6⟩ := hcall fn ks t as hp
    refine ⟨?_, ?_⟩
    · show (okD (.str "call") && (true && (true && (okD (.str c) && (okD (.str fn) && (okAll ks && (okD (.str t) && (okAll as && true)))))))) = true
      rw [hS _ (by decide +kernel), hc4 c hc, a1, a2, a3, a4]; rfl
    · show (true && (true && (true && (true && (true && (noLs ks && (true && (noLs as && true)))))))) = true
      rw [a5, a6]; rfl
  | ask r s c fn ks t as r0 r1 s0 s1 hc hp =>
    obtain ⟨a1, a2, a3, a4, a5, a6⟩ := hcall fn ks t as hp
    refine ⟨?_, ?_⟩
    · show (okD (.str "ask") && (true && (true && (okD (.str c) && (okD (.str fn) && (okAll ks && (okD (.str t) && (okAll as && true)))))))) = true
      rw [hS _ (by decide +kernel), hc4 c hc, a1, a2, a3, a4]; rfl
    · show (true && (true && (true && (true && (true && (noLs ks && (true && (noLs as && true)))))))) = true
      rw [a5, a6]; rfl
  | get r s c t r0 r1 s0 s1 hc ht =>
    refine ⟨?_, rfl⟩
    show (okD (.str "get") && (true && (true && (okD (.str c) && (okD (.str "f") && (okD (.str t) && true)))))) = true
    rw [hS _ (by decide +kernel), hc4 c hc, hS _ (by decide +kernel), ht8 t ht]; rfl
  | put r s c t r0 r1 s0 s1 hc ht =>
    refine ⟨?_, rfl⟩
    show (okD (.str "put") && (true && (okD (.str c) && (okD (.str "f") && (okD (.str t) && (true && true)))))) = true
    rw [hS _ (by decide +kernel), hc4 c hc, hS _ (by decide +kernel), ht8 t ht]; rfl
  | new r c r0 r1 hc => exact ⟨by show (okD (.str "new") && (true && (okD (.str c) && true))) = true; rw [hS _ (by decide +kernel), hc4 c hc]; rfl, rfl⟩
  | array r c k r0 r1 hc => exact ⟨by show (okD (.str "array") && (true && (okD (.str c) && (true && true)))) = true; rw [hS _ (by decide +kernel), hc4 c hc]; rfl, rfl⟩
  | cast r s c r0 r1 s0 s1 hc => exact ⟨by show (okD (.str "cast") && (true && (true && (okD (.str c) && true)))) = true; rw [hS _ (by decide +kernel), hc4 c hc]; rfl, rfl⟩
  | ifis r c t r0 r1 hc => exact ⟨by show (okD (.str "ifis") && (true && (okD (.str c) && (true && true)))) = true; rw [hS _ (by decide +kernel), hc4 c hc]; rfl, rfl⟩
  | null r => exact ⟨by show (okD (.str "null") && true) = true; rw [hS _ (by decide +kernel)]; rfl, rfl⟩
  | move r s => exact ⟨by show (okD (.str "move") && true) = true; rw [hS _ (by decide +kernel)]; rfl, rfl⟩
  | load r s => exact ⟨by show (okD (.str "load") && true) = true; rw [hS _ (by decide +kernel)]; rfl, rfl⟩
  | store r s => exact ⟨by show (okD (.str "store") && true) = true; rw [hS _ (by decide +kernel)]; rfl, rfl⟩
  | jump r => exact ⟨by show (okD (.str "jump") && true) = true; rw [hS _ (by decide +kernel)]; rfl, rfl⟩
  | ifnull r => exact ⟨by show (okD (.str "ifnull") && true) = true; rw [hS _ (by decide +kernel)]; rfl, rfl⟩
  | choose r => exact ⟨by show (okD (.str "choose") && true) = true; rw [hS _ (by decide +kernel)]; rfl, rfl⟩
  | tell r => exact ⟨by show (okD (.str "tell") && true) = true; rw [hS _ (by decide +kernel)]; rfl, rfl⟩
  | ret r => exact ⟨by show (okD (.str "return") && true) = true; rw [hS _ (by decide +kernel)]; rfl, rfl⟩
theorem InsP.draw (h : InsP m n d) : ∀ e ∈ drawD d, ∃ i, e = .int i ∧ 0 ≤ i ∧ i < m := by
  have one : ∀ r : Int, 0 ≤ r → r < m → ∀ e ∈ [PyData.int r], ∃ i, e = .int i ∧ 0 ≤ i ∧ i < m := fun r a b e he => by
    rw [List.mem_singleton] at he; exact ⟨r, he, a, b⟩
  have two : ∀ r s : Int, 0 ≤ r → r < m → 0 ≤ s → s < m → ∀ e ∈ [PyData.int r, .int s], ∃ i, e = .int i ∧ 0 ≤ i ∧ i < m := fun r s a b c d e he => by
    simp only [List.mem_cons, List.not_mem_nil, or_false] at he
    rcases he with rfl | rfl
    · exact ⟨r, rfl, a, b⟩
    · exact ⟨s, rfl, c, d⟩
  have many : ∀ (r s : Int) (as : List PyData), 0 ≤ r → r < m → 0 ≤ s → s < m → (∀ a ∈ as, ∃ i, a = .int i ∧ 0 ≤ i ∧ i < m) → ∀ e ∈ PyData.int r :: .int s :: (as ++ []), ∃ i, e = .int i ∧ 0 ≤ i ∧ i < m := fun r s as a b c d h e he => by
    rw [List.append_nil] at he
    rcases List.mem_cons.mp he with rfl | he
    · exact ⟨r, rfl, a, b⟩
    rcases List.mem_cons.mp he with rfl | he
    · exact ⟨s, rfl, c, d⟩
    · exact h e he
  cases h with
  | new r c r0 r1 hc => exact one r r0 r1
  | array r c k r0 r1 hc => exact one r r0 r1
  | null r r0 r1 => exact one r r0 r1
  | move r s r0 r1 s0 s1 => exact two r s r0 r1 s0 s1
  | get r s c t r0 r1 s0 s1 hc ht => exact two r s r0 r1 s0 s1
  | put r s c t r0 r1 s0 s1 hc ht => exact two r s r0 r1 s0 s1
  | call r s c fn ks t as r0 r1 s0 s1 hc hp => exact many r s as r0 r1 s0 s1 hp.as
  | ask r s c fn ks t as r0 r1 s0 s1 hc hp => exact many r s as r0 r1 s0 s1 hp.as
  | cast r s c r0 r1 s0 s1 hc => exact two r s r0 r1 s0 s1
  | load r s r0 r1 s0 s1 => exact two r s r0 r1 s0 s1
  | store r s r0 r1 s0 s1 => exact two r s r0 r1 s0 s1
  | jump t t0 t1 => exact fun e he => nomatch he
  | ifnull r t r0 r1 => exact one r r0 r1
  | ifis r c t r0 r1 hc => exact one r r0 r1
  | choose t => exact fun e he => nomatch he
  | tell r r0 r1 => exact one r r0 r1
  | ret r r0 r1 => exact one r r0 r1
theorem InsP.tgt (h : InsP m n d) : ∀ e ∈ tgtD d, ∃ i, e = .int i ∧ 0 ≤ i ∧ i < n := by
  have one : ∀ r : Int, 0 ≤ r → r < n → ∀ e ∈ [PyData.int r], ∃ i, e = .int i ∧ 0 ≤ i ∧ i < n := fun r a b e he => by
    rw [List.mem_singleton] at he; exact ⟨r, he, a, b⟩
  cases h with
  | jump t t0 t1 => exact one t t0 t1
  | ifnull r t r0 r1 t0 t1 => exact one t t0 t1
  | ifis r c t r0 r1 hc t0 t1 => exact one t t0 t1
  | choose t t0 t1 => exact one t t0 t1
  | _ => exact fun e he => nomatch he
theorem InsP.shape (h : InsP m n d) : ∃ z ds, d = .tuple (.str z :: ds) ∧ ds.length ≤ 7 ∧ 1 ≤ ds.length := by
  cases h <;> exact ⟨_, _, rfl, by simp, by simp⟩
end
end K03
set_option Elab.async false
set_option linter.all false
set_option maxRecDepth 100000
set_option maxHeartbeats 0
namespace K03
open PySem PySem.Spec PyProof.Rows L2 EX2
def spMade : Sp := fun vs H Q _ => ∃ (p : Addr) (m n : Int), vs = [.ref p, .int m, .int n] ∧ Sc p H ∧ 0 < m ∧ m ≤ 10 ∧ 0 < n ∧ n ≤ 40 ∧ ∀ x d H', Lx p H H' → Dz p H' x d → InsP m n d → Q x H'
theorem len3 {α : Type} {l : List α} (h : l.length = 3) : ∃ a b c, l = [a, b, c] := by
  match l, h with
  | [a, b, c], _ => exact ⟨a, b, c, rfl⟩
section
variable {P : Program} {w : World} {K : PySem.W.Frag} {mg : Str → Option Value} {base : Heap} {f : Addr} {fd : FuncData}
abbrev nmade : List Str := ["_law_source_here", "_law_size", "_law_length", "_law_way", "_law_first", "_law_second", "_law_third", "_law_name", "_law_target", "_law_some", "_law_part"]
theorem scmade : FnScope nmade ["_law_source_here", "_law_size", "_law_length"] (defScope smade) := ⟨rfl, rfl, rfl, by decide +kernel, rfl, by decide +kernel, by decide +kernel⟩
theorem ok_made (F : FnP K "_law_made" smade f fd) (D : Defs w K mg) : FnOk P w K mg base CX0 5 f fd ["_law_source_here", "_law_size", "_law_length"] spMade := by
  have T := D.t
  obtain ⟨fD, fdD, gD, FD⟩ := D.draw
  have GD : FnOk P w K mg base CX0 1 fD fdD ["_law_source_here", "_law_amount"] spDr := okL_draw FD D
  have bD : Binds K fdD ["_law_source_here", "_law_amount"] [] := FD.bindsN fun _ _ _ _ _ _ us hl => match us, hl with | [_, _], _ => rfl
  obtain ⟨fP, fdP, gP, FP⟩ := D.pick
  have GP : FnOk P w K mg base CX0 2 fP fdP ["_law_source_here", "_law_items"] spPick := ok_pick FP D
  have bP : Binds K fdP ["_law_source_here", "_law_items"] [] := FP.bindsN fun _ _ _ _ _ _ us hl => match us, hl with | [_, _], _ => rfl
  obtain ⟨fT, fdT, gT, FT⟩ := D.typeL
  have GT : FnOk P w K mg base CX0 3 fT fdT ["_law_source_here"] spTy := ok_typeL FT D
  have bT : Binds K fdT ["_law_source_here"] [] := FT.bindsN fun _ _ _ _ _ _ us hl => match us, hl with | [_], _ => rfl
  obtain ⟨fC, fdC, gC, FC⟩ := D.call
  have GC : FnOk P w K mg base CX0 4 fC fdC ["_law_source_here", "_law_size"] spCall := ok_call FC D
  have bC : Binds K fdC ["_law_source_here", "_law_size"] [] := FC.bindsN fun _ _ _ _ _ _ us hl => match us, hl with | [_, _], _ => rfl
  refine F.ok scmade (fun vs H Q E h => ?_) (fun cdv A outer s H vs Q E hr h => ?_)
  · obtain ⟨p, m, n, rfl, _⟩ := h
    rfl
  · obtain ⟨p, m, n, rfl, hs, hm0, hm1, hn0, hn1, hQ⟩ := h
    refine ⟨_, PSs.nox (pss_cons (ps_set (i := 3) scmade.nd rfl (Or.inl rfl) (pe_call GD (hr.mono (by decide)) rfl gD FD.kp bD .nil pass0 (pa_cons (pv 0) (pa_cons pe_int pa_nil))))
      (pss_cons (ps_asg (pe_lc (own := [("_law_part", 10)]) (g := gName 10) (tt := tYes) rfl scmade.nd (pi_range1 rfl T.rng (pa_cons pe_int pa_nil)) (blkOk_by (N := nmade) (sc := defScope smade) (by decide +kernel)) (fun _ _ _ _ _ => (pg_name (i := 10) scmade.nd rfl (Or.inl rfl))) (fun _ _ _ _ _ => pts_nil) (fun _ _ _ _ _ => (pe_call GD (hr.mono (by decide)) rfl gD FD.kp bD .nil pass0 (pa_cons (pv 0) (pa_cons (pv 1) pa_nil))))) (pg_unl rfl (pgs_cons (pg_name (i := 4) scmade.nd rfl (Or.inl rfl)) (pgs_cons (pg_name (i := 5) scmade.nd rfl (Or.inl rfl)) (pgs_cons (pg_name (i := 6) scmade.nd rfl (Or.inl rfl)) pgs_nil)))))
      (pss_cons (ps_par (i := 7) (j := 8) rfl scmade.nd rfl rfl (by decide) rfl rfl (pa_cons (pe_call GP (hr.mono (by decide)) rfl gP FP.kp bP .nil pass0 (pa_cons (pv 0) (pa_cons (pe_lst (pa_cons pe_str (pa_cons pe_str (pa_cons pe_str (pa_cons pe_str pa_nil))))) pa_nil))) (pa_cons (pe_call GD (hr.mono (by decide)) rfl gD FD.kp bD .nil pass0 (pa_cons (pv 0) (pa_cons (pv 2) pa_nil))) pa_nil)) (by rfl))
      (pss_cons (ps_if (pt_cmpR op_lt (pv 3) pe_int (nomark _))
        (pss_one (ps_ret (pe_ix ix_list (pe_lst (pa_cons (pe_tup (pa_cons pe_str (pa_cons (pv 4) (pa_cons (pv 7) pa_nil)))) (pa_cons (pe_tup (pa_cons pe_str (pa_cons (pv 4) (pa_cons (pv 7) (pa_cons (pv 6) pa_nil))))) (pa_cons (pe_tup (pa_cons pe_str (pa_cons (pv 4) pa_nil))) (pa_cons (pe_tup (pa_cons pe_str (pa_cons (pv 4) (pa_cons (pv 5) pa_nil)))) pa_nil))))) (pv 3) (fun _ _ => rfl))))
        pss_nil)
      (pss_cons (ps_if (pt_cmpR op_eq (pv 3) pe_int (nomark _))
        (pss_one (ps_ret (pe_tup (pa_cons pe_str (pa_cons (pv 4) (pa_cons (pv 5) (pa_cons (pv 7) (pa_cons pe_str (pa_cons (pe_call GT (hr.mono (by decide)) rfl gT FT.kp bT .nil pass0 (pa_cons (pv 0) pa_nil)) pa_nil)))))))))
        pss_nil)
      (pss_cons (ps_if (pt_cmpR op_eq (pv 3) pe_int (nomark _))
        (pss_one (ps_ret (pe_tup (pa_cons pe_str (pa_cons (pv 4) (pa_cons (pv 7) (pa_cons pe_str (pa_cons (pe_call GT (hr.mono (by decide)) rfl gT FT.kp bT .nil pass0 (pa_cons (pv 0) pa_nil)) (pa_cons (pv 5) pa_nil)))))))))
        pss_nil)
      (pss_cons (ps_if (pt_cmpR op_eq (pv 3) pe_int (nomark _))
        (pss_one (ps_ret (pe_op op_catT (pe_tup (pa_cons pe_str (pa_cons (pv 4) (pa_cons (pv 5) (pa_cons (pv 7) pa_nil))))) (pe_call GC hr rfl gC FC.kp bC .nil pass0 (pa_cons (pv 0) (pa_cons (pv 1) pa_nil))))))
        pss_nil)
      (pss_cons (ps_if (pt_cmpR op_eq (pv 3) pe_int (nomark _))
        (pss_one (ps_ret (pe_op op_catT (pe_tup (pa_cons pe_str (pa_cons (pv 4) (pa_cons (pv 5) (pa_cons (pv 7) pa_nil))))) (pe_call GC hr rfl gC FC.kp bC .nil pass0 (pa_cons (pv 0) (pa_cons (pv 1) pa_nil))))))
        pss_nil)
      (pss_cons (ps_set (i := 9) scmade.nd rfl (Or.inl rfl) (pe_lst (pa_cons (pe_tup (pa_cons pe_str (pa_cons (pv 4) (pa_cons (pv 5) (pa_cons (pv 7) pa_nil))))) (pa_cons (pe_tup (pa_cons pe_str (pa_cons (pv 4) (pa_cons (pv 5) (pa_cons pe_int pa_nil))))) (pa_cons (pe_tup (pa_cons pe_str (pa_cons (pv 4) (pa_cons pe_int (pa_cons (pv 5) pa_nil))))) pa_nil)))))
      (pss_cons (ps_set (i := 9) scmade.nd rfl (Or.inl rfl) (pe_op op_cat (pv 9) (pe_lst (pa_cons (pe_tup (pa_cons pe_str (pa_cons (pv 8) pa_nil))) (pa_cons (pe_tup (pa_cons pe_str (pa_cons (pv 4) (pa_cons (pv 8) pa_nil)))) (pa_cons (pe_tup (pa_cons pe_str (pa_cons (pv 4) (pa_cons (pv 7) (pa_cons (pv 8) pa_nil))))) (pa_cons (pe_tup (pa_cons pe_str (pa_cons (pv 8) pa_nil))) pa_nil)))))))
      (pss_one (ps_ret (pe_ix ix_list (pe_op op_cat (pv 9) (pe_lst (pa_cons (pe_tup (pa_cons pe_str (pa_cons (pv 4) pa_nil))) (pa_cons (pe_tup (pa_cons pe_str (pa_cons (pv 4) pa_nil))) pa_nil)))) (pe_op op_sub (pv 3) pe_int) (fun _ _ => rfl)))))))))))))), ?_⟩
    refine ⟨_, rfl, p, _, rfl, hs, by decide, by decide, fun way H1 w0 w1 lx1 => ?_⟩
    refine ⟨_, rfl, by decide, by decide, fun L1 hL1 => ?_⟩
    refine lc_lx walk_range lx1.sc hL1 (fun _ _ => trivial) (fun _ d => ∃ i, d = .int i ∧ 0 ≤ i ∧ i < m) (by decide) (fun j H2 x H3 y => y.1) ?_ ?_
    · rintro j x H4 hj lx4 _ Qt hQt
      exact ⟨rfl, _, rfl, _, rfl, p, m, rfl, lx4.sc, hm0, by omega, fun i H5 i0 i1 lx5 => hQt _ (.int i) H5 lx5 (.int i) rfl ⟨i, rfl, i0, i1⟩⟩
    intro H2 xs ds lx2 hL1s hds hlen _ hR
    obtain ⟨d1, d2, d3, rfl⟩ := len3 (show ds.length = 3 from hlen)
    obtain ⟨r, rfl, r0, r1⟩ := hR 0 _ rfl
    obtain ⟨q, rfl, q0, q1⟩ := hR 1 _ rfl
    obtain ⟨k, rfl, k0, k1⟩ := hR 2 _ rfl
    obtain rfl : xs = [.int r, .int q, .int k] := by
      cases hds with
      | cons a t => cases t with
        | cons b t => cases t with
          | cons c t => cases t; cases a; cases b; cases c; rfl
    refine ⟨L1, _, rfl, SqL.of hL1s, rfl, _, _, rfl, _, _, rfl, _, _, rfl, rfl, ?_⟩
    have lxA := lx1.trans lx2
    refine ⟨_, rfl, le_line (by simp), fun l1 h1 => ⟨p, l1, _, rfl, lxA.sc.ex (Evl.Ex.new h1), lxA.sc.ne h1, upd_same, by simp, by simp, fun x H3 hx lx3 => ?_⟩⟩
    have lxB := (lxA.then (Evl.Ex.new h1)).trans lx3
    obtain ⟨c, hc, rfl⟩ : ∃ c, c ∈ nm4 ∧ x = .str c := by
      simp only [List.mem_cons, List.not_mem_nil, or_false] at hx
      rcases hx with rfl | rfl | rfl | rfl <;> exact ⟨_, by decide +kernel, rfl⟩
    refine ⟨_, rfl, _, rfl, p, n, rfl, lxB.sc, hn0, by omega, fun t H5 t0 t1 lx4 => ⟨_, _, rfl, ?_⟩⟩
    have lxC := lxB.trans lx4
    clear hL1s hds hlen lx4 lx3
    have step : ∀ {H8 : Hp} {a : Addr} {us : List V} {es : List PyData} {as : List V} {ds : List PyData}, Lx p H H8 → H8 a = none → DzAll p H8 us es → DzAll p H8 as ds → (∀ e ∈ ds, InsP m n e) → InsP m n (.tuple es) →
        Lx p H (upd H8 a (.tup us)) ∧ DzAll p (upd H8 a (.tup us)) (as ++ [.ref a]) (ds ++ [.tuple es]) ∧ ∀ e ∈ ds ++ [.tuple es], InsP m n e := by
      intro H8 a us es as ds l ha hu hd hi he
      have e8 := Evl.Ex.new (o := .tup us) ha
      refine ⟨l.then e8, DqAll.app (hd.lx (.of l.sc e8)) (.cons (Dz.tupN l.sc ha hu) .nil), fun e q => ?_⟩
      rcases List.mem_append.mp q with q | q
      · exact hi e q
      · rw [List.mem_singleton] at q; subst q; exact he
    have stepL : ∀ {H8 : Hp} {a : Addr} {o : HO} {as : List V} {ds : List PyData}, Lx p H H8 → H8 a = none → DzAll p H8 as ds → Lx p H (upd H8 a o) ∧ DzAll p (upd H8 a o) as ds := by
      intro H8 a o as ds l ha hd
      have e8 := Evl.Ex.new (o := o) ha
      exact ⟨l.then e8, hd.lx (.of l.sc e8)⟩
    have fin : ∀ {H8 : Hp} {as : List V} {ds : List PyData} {i : Int}, Lx p H H8 → DzAll p H8 as ds → (∀ e ∈ ds, InsP m n e) → 0 ≤ i → i < (as.length : Int) → ∃ v, L2.atI as i = some v ∧ Q v H8 := by
      intro H8 as ds i l hd hi i0 i1
      obtain ⟨k, rfl⟩ := Int.eq_ofNat_of_zero_le i0
      have hk : k < as.length := by omega
      obtain ⟨e, he, hx⟩ := hd.get (List.getElem?_eq_getElem hk)
      exact ⟨_, atI_nat (List.getElem?_eq_getElem hk), hQ _ e _ l hx (hi e (List.mem_of_getElem? he))⟩
    refine ⟨_, rfl, _, _, rfl, rfl, _, rfl, ?_⟩
    refine ite2 (fun hw => ?_) (fun hw => ?_)
    · have hw' := of_decide_eq_true hw
      refine ⟨_, rfl, _, rfl, le_line (by simp), fun a1 h1 => ?_⟩
      obtain ⟨l1, z1, i1⟩ := step (as := []) (ds := []) lxC h1 (.cons (.str "new") (.cons (.int r) (.cons (.str c) .nil))) .nil (fun e he => nomatch he) (.new r c r0 r1 hc)
      refine ⟨_, rfl, _, rfl, _, rfl, le_line (by simp), fun a2 h2 => ?_⟩
      obtain ⟨l2, z2, i2⟩ := step l1 h2 (.cons (.str "array") (.cons (.int r) (.cons (.str c) (.cons (.int k) .nil)))) z1 i1 (.array r c k r0 r1 hc k0 (by omega))
      refine ⟨_, rfl, le_line (by simp), fun a3 h3 => ?_⟩
      obtain ⟨l3, z3, i3⟩ := step l2 h3 (.cons (.str "null") (.cons (.int r) .nil)) z2 i2 (.null r r0 r1)
      refine ⟨_, rfl, _, rfl, le_line (by simp), fun a4 h4 => ?_⟩
      obtain ⟨l4, z4, i4⟩ := step l3 h4 (.cons (.str "move") (.cons (.int r) (.cons (.int q) .nil))) z3 i3 (.move r q r0 r1 q0 q1)
      refine ⟨le_line (by simp), fun a5 h5 => ?_⟩
      obtain ⟨l5, z5⟩ := stepL (o := .lst [.ref a1, .ref a2, .ref a3, .ref a4]) l4 h5 z4
      obtain ⟨v, hv, hq⟩ := fin l5 z5 i4 w0 (show way < 4 from hw')
      exact ⟨_, rfl, a5, _, way, v, rfl, rfl, SqL.of upd_same, hv, hq⟩
    have hw4 : 4 ≤ way := by
      have : ¬ way < 4 := fun z => hw (decide_eq_true z)
      omega
    have eqi : ∀ k : Int, decide (V.int way = V.int k) = decide (way = k) := fun k => decide_eq_decide.mpr ⟨fun e => V.int.inj e, fun e => by rw [e]⟩
    refine ⟨_, rfl, rfl, _, rfl, ?_⟩
    rw [eqi]
    refine ite2 (fun hw => ?_) (fun hw5 => ?_)
    · refine ⟨_, rfl, _, rfl, _, rfl, _, rfl, p, rfl, lxC.sc, fun ty H6 hty lx6 => ⟨le_line (by simp), fun a1 h1 => ?_⟩⟩
      exact hQ _ _ _ ((lxC.trans lx6).then (Evl.Ex.new h1)) (Dz.tupN lx6.sc h1 (.cons (.str "get") (.cons (.int r) (.cons (.int q) (.cons (.str c) (.cons (.str "f") (.cons (.str ty) .nil))))))) (.get r q c ty r0 r1 q0 q1 hc hty)
    refine ⟨_, rfl, rfl, _, rfl, ?_⟩
    rw [eqi]
    refine ite2 (fun hw => ?_) (fun hw6 => ?_)
    · refine ⟨_, rfl, _, rfl, _, rfl, p, rfl, lxC.sc, fun ty H6 hty lx6 => ⟨_, rfl, le_line (by simp), fun a1 h1 => ?_⟩⟩
      exact hQ _ _ _ ((lxC.trans lx6).then (Evl.Ex.new h1)) (Dz.tupN lx6.sc h1 (.cons (.str "put") (.cons (.int r) (.cons (.str c) (.cons (.str "f") (.cons (.str ty) (.cons (.int q) .nil))))))) (.put r q c ty r0 r1 q0 q1 hc hty)
    have tcat : ∀ (wd : Str) (hwd : ∀ fn ks t as, CallP m fn ks t as → InsP m n (.tuple [.str wd, .int r, .int q, .str c, .str fn, .tuple ks, .str t, .tuple as])) (a1 : Addr) (h1 : H5 a1 = none),
        spCall [.ref p, .int m] (upd H5 a1 (.tup [.str wd, .int r, .int q, .str c])) (fun x H6 => rCatT K (.ref a1) x H6 Q) E0 := by
      intro wd hwd a1 h1
      have e1 := Evl.Ex.new (o := .tup [.str wd, .int r, .int q, .str c]) h1
      refine ⟨p, m, rfl, lxC.sc.ex e1, hm0, hm1, fun x fn ks t as H6 lx6 hx hp => ?_⟩
      obtain ⟨a2, ys, rfl, h2, hall⟩ := Dq.tupI hx
      have hl2 := DqAll.length hall
      have ha1 : H6 a1 = some (.tup [.str wd, .int r, .int q, .str c]) := lx6.at upd_same (lxC.sc.ne h1)
      have hn2 : a2 ≠ p := rm_ne_of h2
      rw [rm_ne hn2] at h2
      refine ⟨a1, a2, _, ys, rfl, rfl, SqT.of ha1, SqT.of h2, by simp, le_line (by rw [hl2]; simp), fun hy => ?_, fun _ a3 h3 => ?_⟩
      · rw [hy] at hl2
        cases hl2
      · have e3 := Evl.Ex.new (o := .tup ([.str wd, .int r, .int q, .str c] ++ ys)) h3
        refine hQ _ (.tuple [.str wd, .int r, .int q, .str c, .str fn, .tuple ks, .str t, .tuple as]) _ (((lxC.then e1).trans lx6).then e3) (Dz.tupN (ds := [.str wd, .int r, .int q, .str c] ++ [.str fn, .tuple ks, .str t, .tuple as]) lx6.sc h3 (DqAll.app (.cons (.str wd) (.cons (.int r) (.cons (.int q) (.cons (.str c) .nil)))) hall)) (hwd fn ks t as hp)
    refine ⟨_, rfl, rfl, _, rfl, ?_⟩
    rw [eqi]
    refine ite2 (fun hw => ?_) (fun hw7 => ?_)
    · refine ⟨_, rfl, _, rfl, _, rfl, le_line (by simp), fun a1 h1 => ⟨_, rfl, _, rfl, ?_⟩⟩
      exact tcat "call" (fun fn ks t as hp => .call r q c fn ks t as r0 r1 q0 q1 hc hp) a1 h1
    refine ⟨_, rfl, rfl, _, rfl, ?_⟩
    rw [eqi]
    refine ite2 (fun hw => ?_) (fun hw8 => ?_)
    · refine ⟨_, rfl, _, rfl, _, rfl, le_line (by simp), fun a1 h1 => ⟨_, rfl, _, rfl, ?_⟩⟩
      exact tcat "ask" (fun fn ks t as hp => .ask r q c fn ks t as r0 r1 q0 q1 hc hp) a1 h1
    have hw8' : 8 ≤ way := by
      have a5 : ¬ way = 4 := fun z => hw5 (decide_eq_true z)
      have a6 : ¬ way = 5 := fun z => hw6 (decide_eq_true z)
      have a7 : ¬ way = 6 := fun z => hw7 (decide_eq_true z)
      have a8 : ¬ way = 7 := fun z => hw8 (decide_eq_true z)
      omega
    -- three
    refine ⟨_, rfl, _, rfl, _, rfl, le_line (by simp), fun a1 h1 => ?_⟩
    obtain ⟨l1, z1, i1⟩ := step (as := []) (ds := []) lxC h1 (.cons (.str "cast") (.cons (.int r) (.cons (.int q) (.cons (.str c) .nil)))) .nil (fun e he => nomatch he) (.cast r q c r0 r1 q0 q1 hc)
    refine ⟨_, rfl, _, rfl, le_line (by simp), fun a2 h2 => ?_⟩
    obtain ⟨l2, z2, i2⟩ := step l1 h2 (.cons (.str "load") (.cons (.int r) (.cons (.int q) (.cons (.int 1) .nil)))) z1 i1 (.load r q r0 r1 q0 q1)
    refine ⟨_, rfl, _, rfl, le_line (by simp), fun a3 h3 => ?_⟩
    obtain ⟨l3, z3, i3⟩ := step l2 h3 (.cons (.str "store") (.cons (.int r) (.cons (.int 0) (.cons (.int q) .nil)))) z2 i2 (.store r q r0 r1 q0 q1)
    refine ⟨le_line (by simp), fun b1 g1 => ?_⟩
    obtain ⟨l4, z4⟩ := stepL (o := .lst [.ref a1, .ref a2, .ref a3]) l3 g1 z3
    have hb1 : (upd _ b1 (.lst [.ref a1, .ref a2, .ref a3])) b1 = some (.lst [.ref a1, .ref a2, .ref a3]) := upd_same (H := upd (upd (upd H5 a1 (.tup [.str "cast", .int r, .int q, .str c])) a2 (.tup [.str "load", .int r, .int q, .int 1])) a3 (.tup [.str "store", .int r, .int 0, .int q]))
    generalize (upd (upd (upd (upd H5 a1 (.tup [.str "cast", .int r, .int q, .str c])) a2 (.tup [.str "load", .int r, .int q, .int 1])) a3 (.tup [.str "store", .int r, .int 0, .int q])) b1 (.lst [.ref a1, .ref a2, .ref a3])) = H6 at l4 z4 hb1
    -- four
    refine ⟨_, rfl, _, rfl, le_line (by simp), fun a4 h4 => ?_⟩
    have f4 := Evl.Ex.new (o := .tup [.str "jump", .int t]) h4
    obtain ⟨l5, z5, i5⟩ := step l4 h4 (.cons (.str "jump") (.cons (.int t) .nil)) z4 i3 (.jump t t0 t1)
    refine ⟨_, rfl, _, rfl, le_line (by simp), fun a5 h5 => ?_⟩
    have f5 := Evl.Ex.new (o := .tup [.str "ifnull", .int r, .int t]) h5
    obtain ⟨l6, z6, i6⟩ := step l5 h5 (.cons (.str "ifnull") (.cons (.int r) (.cons (.int t) .nil))) z5 i5 (.ifnull r t r0 r1 t0 t1)
    refine ⟨_, rfl, _, rfl, _, rfl, le_line (by simp), fun a6 h6 => ?_⟩
    have f6 := Evl.Ex.new (o := .tup [.str "ifis", .int r, .str c, .int t]) h6
    obtain ⟨l7, z7, i7⟩ := step l6 h6 (.cons (.str "ifis") (.cons (.int r) (.cons (.str c) (.cons (.int t) .nil)))) z6 i6 (.ifis r c t r0 r1 hc t0 t1)
    refine ⟨_, rfl, le_line (by simp), fun a7 h7 => ?_⟩
    have f7 := Evl.Ex.new (o := .tup [.str "choose", .int t]) h7
    obtain ⟨l8, z8, i8⟩ := step l7 h7 (.cons (.str "choose") (.cons (.int t) .nil)) z7 i7 (.choose t t0 t1)
    refine ⟨le_line (by simp), fun b2 g2 => ?_⟩
    have f8 := Evl.Ex.new (o := .lst [.ref a4, .ref a5, .ref a6, .ref a7]) g2
    obtain ⟨l9, z9⟩ := stepL (o := .lst [.ref a4, .ref a5, .ref a6, .ref a7]) l8 g2 z8
    have hb2 := (((f4.trans f5).trans f6).trans f7).trans f8 _ _ hb1
    have hb3 := upd_same (H := upd (upd (upd (upd H6 a4 (.tup [.str "jump", .int t])) a5 (.tup [.str "ifnull", .int r, .int t])) a6 (.tup [.str "ifis", .int r, .str c, .int t])) a7 (.tup [.str "choose", .int t])) (a := b2) (o := .lst [.ref a4, .ref a5, .ref a6, .ref a7])
    generalize upd (upd (upd (upd (upd H6 a4 (.tup [.str "jump", .int t])) a5 (.tup [.str "ifnull", .int r, .int t])) a6 (.tup [.str "ifis", .int r, .str c, .int t])) a7 (.tup [.str "choose", .int t])) b2 (.lst [.ref a4, .ref a5, .ref a6, .ref a7]) = H7 at l9 z9 hb2 hb3
    refine ⟨b1, b2, _, _, rfl, rfl, hb2, hb3, le_line (by simp), fun b3 g3 => ?_⟩
    obtain ⟨l10, z10⟩ := stepL (o := .lst ([.ref a1, .ref a2, .ref a3] ++ [.ref a4, .ref a5, .ref a6, .ref a7])) l9 g3 z9
    have hb4 := upd_same (H := H7) (a := b3) (o := .lst ([.ref a1, .ref a2, .ref a3] ++ [.ref a4, .ref a5, .ref a6, .ref a7]))
    generalize upd H7 b3 (.lst ([.ref a1, .ref a2, .ref a3] ++ [.ref a4, .ref a5, .ref a6, .ref a7])) = H8 at l10 z10 hb4
    -- two
    refine ⟨_, rfl, _, rfl, le_line (by simp), fun a8 h8 => ?_⟩
    have f9 := Evl.Ex.new (o := .tup [.str "tell", .int r]) h8
    obtain ⟨l11, z11, i11⟩ := step l10 h8 (.cons (.str "tell") (.cons (.int r) .nil)) z10 i8 (.tell r r0 r1)
    refine ⟨_, rfl, le_line (by simp), fun a9 h9 => ?_⟩
    have f10 := Evl.Ex.new (o := .tup [.str "return", .int r]) h9
    obtain ⟨l12, z12, i12⟩ := step l11 h9 (.cons (.str "return") (.cons (.int r) .nil)) z11 i11 (.ret r r0 r1)
    refine ⟨le_line (by simp), fun b4 g4 => ?_⟩
    have f11 := Evl.Ex.new (o := .lst [.ref a8, .ref a9]) g4
    obtain ⟨l13, z13⟩ := stepL (o := .lst [.ref a8, .ref a9]) l12 g4 z12
    have hb5 := ((f9.trans f10).trans f11) _ _ hb4
    refine ⟨b3, b4, _, _, rfl, rfl, hb5, upd_same, le_line (by simp), fun b5 g5 => ?_⟩
    obtain ⟨l14, z14⟩ := stepL (o := .lst ([.ref a1, .ref a2, .ref a3] ++ [.ref a4, .ref a5, .ref a6, .ref a7] ++ [.ref a8, .ref a9])) l13 g5 z13
    obtain ⟨v, hv, hq⟩ := fin (i := way - 8) l14 z14 i12 (by omega) (by show way - 8 < 9; omega)
    exact ⟨_, rfl, _, _, rfl, rfl, b5, _, way - 8, v, rfl, rfl, SqL.of upd_same, hv, hq⟩
end
end K03
set_option Elab.async false
set_option linter.all false
set_option maxRecDepth 100000
set_option maxHeartbeats 0
namespace K03
open PySem PySem.Spec PyProof.Rows L2 EX2
/-! ### the parts of a method -/
def seqD (m : Int) : PyData → Bool
  | .list ds => decide ((ds.length : Int) ≤ m)
  | .tuple ds => decide ((ds.length : Int) ≤ m)
  | _ => false
def spSeq : Sp := fun vs H Q _ => ∃ (x : V) (d : PyData) (m : Int), vs = [x, .int m] ∧ Dq H x d ∧ ∀ H', Evl.Ex H H' → Q (.bl (seqD m d)) H'
theorem kit_list2 (d : PyData) {K : PySem.W.Frag} : PySem.W.kitAny K (.type (tyD d)) [.type "list", .type "tuple"] = some (isLstD d || isTupD d) := by
  refine kitAny_cons (kit_ty (kit_lstD d)) (fun h => kitAny_cons (kit_ty (kit_tupD d)) (fun h2 => by rw [h, h2]; exact kitAny_nil) (fun h2 => by rw [h, h2]; rfl)) (fun h => by rw [h]; rfl)
section
variable {P : Program} {w : World} {K : PySem.W.Frag} {mg : Str → Option Value} {base : Heap} {f : Addr} {fd : FuncData}
abbrev nseq : List Str := ["obj", "most"]
theorem scseq : FnScope nseq ["obj", "most"] (defScope ssequence) := ⟨rfl, rfl, rfl, by decide +kernel, rfl, by decide +kernel, by decide +kernel⟩
theorem ok_seq (F : FnP K "is_sequence" ssequence f fd) (D : Defs w K mg) : FnOk P w K mg base CX0 1 f fd ["obj", "most"] spSeq := by
  have T := D.t
  refine F.ok scseq (fun vs H Q E h => ?_) (fun cdv A outer s H vs Q E hr h => ?_)
  · obtain ⟨x, d, m, rfl, _⟩ := h
    rfl
  · obtain ⟨x, d, m, rfl, hd, hQ⟩ := h
    refine ⟨_, PSs.nox (pss_one (ps_ret (pe_and (pe_callB call_isiT rfl T.isi boot_isi (pa_cons (pv 0) (pa_cons (pe_tup (pa_cons (pe_bltn rfl T.lst boot_list (v := .ty "list") rfl) (pa_cons (pe_bltn rfl T.tup boot_tuple (v := .ty "tuple") rfl) pa_nil))) pa_nil))) (pe_one (pe_cmpR op_le (pe_callB call_len rfl T.len boot_len (pa_cons (pv 0) pa_nil)) (pv 1) (nomark _)))))), ?_⟩
    refine ⟨_, rfl, le_line (by simp), fun t1 h1 => ?_⟩
    have e1 := Evl.Ex.new (o := .tup [.ty "list", .ty "tuple"]) h1
    have hd1 := hd.ext e1
    refine ⟨x, t1, _, _, _, _, rfl, upd_same, .cons (.ty _) (.cons (.ty _) .nil), ty_of hd1, kit_list2 d, _, rfl, ?_⟩
    have q := hQ _ e1
    cases d with
    | list ds =>
      obtain ⟨a, xs, rfl, ha, hall⟩ := hd1.lstI
      refine iteT ⟨_, rfl, _, _, rfl, .inl ⟨_, SqL.of ha, rfl⟩, _, rfl, _, _, rfl, rfl, ?_⟩
      rw [DqAll.length hall]
      exact q
    | tuple ds =>
      obtain ⟨a, xs, rfl, ha, hall⟩ := hd1.tupI
      refine iteT ⟨_, rfl, _, _, rfl, .inr ⟨_, SqT.of ha, rfl⟩, _, rfl, _, _, rfl, rfl, ?_⟩
      rw [DqAll.length hall]
      exact q
    | _ => exact iteF q
def spSize : Sp := fun vs H Q _ => ∃ (x : V) (d : PyData) (n : Int), vs = [x, .int n] ∧ Dq H x d ∧ okD d = true ∧ ∀ H', Evl.Ex H H' → Q (.bl (inR (1 + n) 10 d)) H'
abbrev nsize : List Str := ["value", "params"]
theorem scsize : FnScope nsize ["value", "params"] (defScope ssize) := ⟨rfl, rfl, rfl, by decide +kernel, rfl, by decide +kernel, by decide +kernel⟩
theorem ok_size (F : FnP K "is_size" ssize f fd) (D : Defs w K mg) : FnOk P w K mg base CX0 2 f fd ["value", "params"] spSize := by
  have T := D.t
  obtain ⟨tS, gS⟩ := D.size10
  obtain ⟨fI, fdI, gI, FI⟩ := D.is_integer
  have GI : FnOk P w K mg base CX0 1 fI fdI ["obj"] (spD isIntD) := ok_integer FI T
  have bI : Binds K fdI ["obj"] [] := FI.bindsN fun _ _ _ _ _ _ us hl => match us, hl with | [_], _ => rfl
  refine F.ok scsize (fun vs H Q E h => ?_) (fun cdv A outer s H vs Q E hr h => ?_)
  · obtain ⟨x, d, m, rfl, _⟩ := h
    rfl
  · obtain ⟨x, d, n, rfl, hd, hk, hQ⟩ := h
    refine ⟨_, PSs.nox (pss_one (ps_ret (pe_and (pe_call GI hr rfl gI FI.kp bI .nil pass0 (pa_cons (pv 0) pa_nil)) (pe_one (pe_chain op_le op_le (pe_op op_add pe_int (pv 1)) (pv 0) (pe_glob rfl gS (v := .int 10) ⟨tS, rfl⟩)))))), ?_⟩
    refine ⟨_, rfl, x, d, rfl, hd, hk, fun H' e => ⟨_, rfl, ?_⟩⟩
    have q := hQ H' e
    refine ite2 (fun h => ?_) (fun h => ?_)
    · cases d with
      | int i =>
        cases hd
        refine ⟨_, rfl, _, _, rfl, rfl, _, rfl, _, _, rfl, rfl, _, rfl, ?_⟩
        have q2 : Q (.bl (decide (1 + n ≤ i) && decide (i ≤ 10))) H' := q
        refine ite2 (fun h1 => ?_) (fun h1 => ?_)
        · refine ⟨_, _, rfl, rfl, ?_⟩
          rw [h1, Bool.true_and] at q2
          exact q2
        · rw [show decide (1 + n ≤ i) = false from by simpa using h1, Bool.false_and] at q2
          exact q2
      | _ => cases h
    · cases d <;> first | exact q | exact absurd rfl h
end
end K03
set_option Elab.async false
set_option linter.all false
set_option maxRecDepth 100000
set_option maxHeartbeats 0
namespace K03
open PySem PySem.Spec PyProof.Rows L2 EX2
def vI : PyData → V
  | .int i => .int i
  | _ => .non
/-- a list of ints, told by data -/
def spInts (g : PyData → List PyData) : Sp := fun vs H Q _ => ∃ (x : V) (d : PyData), vs = [x] ∧ Dq H x d ∧ okD d = true ∧ insD d = true ∧ ∀ L H', Evl.Ex H H' → H L = none → H' L = some (.lst ((g d).map vI)) → Q (.ref L) H'
/-- an instruction's form -/
theorem ins_form {d : PyData} (h : insD d = true) : ∃ z ds fm, d = .tuple (.str z :: ds) ∧ K03.forms.lookup z = some fm ∧ ds.length = fm.length ∧ ∀ i, i < fm.length → fitsC (fm.cps.toList.getD i 0) (ds.getD i .none) = true := by
  cases d with
  | tuple l =>
    cases l with
    | nil => cases h
    | cons a ds =>
      cases a with
      | str z =>
        have h1 : insT z ds = true := h
        unfold insT at h1
        cases hl : K03.forms.lookup z with
        | none => rw [hl] at h1; cases h1
        | some fm =>
          rw [hl] at h1
          simp only [Bool.and_eq_true, decide_eq_true_eq, List.all_eq_true] at h1
          exact ⟨z, ds, fm, rfl, hl, h1.1.1, fun i hi => h1.1.2 i (List.mem_range.mpr hi)⟩
      | _ => cases h
  | _ => cases h
def drS (fm : Str) (ds : List PyData) (i : Nat) : List PyData := if fm.cps.toList.getD i 0 = 114 then [ds.getD i .none] else if fm.cps.toList.getD i 0 = 120 then itemsD (ds.getD i .none) else []
theorem drawT_succ (fm : Str) (ds : List PyData) (j : Nat) : (List.range (j + 1)).flatMap (drS fm ds) = (List.range j).flatMap (drS fm ds) ++ drS fm ds j := by
  rw [List.range_succ, List.flatMap_append]
  simp
theorem ints_of {H : Hp} {xs : List V} {ds : List PyData} (h : DqAll H xs ds) (hi : ∀ d ∈ ds, ∃ i, d = .int i) : xs = ds.map vI := by
  induction xs generalizing ds with
  | nil => cases h; rfl
  | cons x xs ih =>
    cases h with
    | @cons _ _ d ds h t =>
      obtain ⟨i, rfl⟩ := hi d List.mem_cons_self
      cases h
      rw [ih t fun e he => hi e (List.mem_cons_of_mem _ he)]
      rfl
theorem inR_int' {lo hi : Int} {d : PyData} (h : inR lo hi d = true) : ∃ i, d = .int i := by
  cases d with
  | int i => exact ⟨i, rfl⟩
  | _ => cases h
section
variable {P : Program} {w : World} {K : PySem.W.Frag} {mg : Str → Option Value} {base : Heap} {f : Addr} {fd : FuncData}
abbrev ndrawers : List Str := ["instruction", "found", "sign", "item"]
theorem scdrawers : FnScope ndrawers ["instruction"] (defScope sdrawers) := ⟨rfl, rfl, rfl, by decide +kernel, rfl, by decide +kernel, by decide +kernel⟩
theorem spInts_len {g : PyData → List PyData} {p : Str} : ∀ vs H Q E, spInts g vs H Q E → vs.length = [p].length := by
  rintro vs H Q E ⟨x, d, rfl, _⟩
  rfl
theorem ok_drawers (F : FnP K "drawers_in" sdrawers f fd) (D : Defs w K mg) : FnOk P w K mg base CX0 1 f fd ["instruction"] (spInts drawD) := by
  have T := D.t
  obtain ⟨es, n, kd⟩ := D.kd
  refine F.ok scdrawers spInts_len (fun cdv A outer s H vs Q E hr h => ?_)
  obtain ⟨x, d, rfl, hd, hk, hi, hQ⟩ := h
  refine ⟨_, PSs.nox (pss_cons (ps_set (i := 1) scdrawers.nd rfl (Or.inl rfl) (pe_lst pa_nil))
      (pss_cons (ps_for PassesOwn.never rfl (ZS.pi_zipS rfl T.zip (pa_cons (EX2.pe_kd kd (pe_glob rfl D.forms (v := .ref (He.ga K "FORMS")) rfl) (pe_ix ix_tup (pv 0) pe_int (fun _ _ => rfl)) (fun _ _ => rfl)) (pa_cons (pe_slice sl_tup (pv 0) (po_some pe_int) po_none) pa_nil))) (pg_tup rfl (pgs_cons (pg_name (i := 2) scdrawers.nd rfl (Or.inl rfl)) (pgs_cons (pg_name (i := 3) scdrawers.nd rfl (Or.inl rfl)) pgs_nil)))
        (pss_cons (ps_if (pt_cmpR op_eq (pv 2) pe_str (nomark _))
          (pss_one (ps_expr (pe_bm PySem.F.plainAttrs_list PySem.F.slot_list_append PySem.F.type_list_append mt_append (pv 1) (pa_cons (pv 3) pa_nil))))
          pss_nil)
        (pss_one (ps_if (pt_cmpR op_eq (pv 2) pe_str (nomark _))
          (pss_one (ps_expr (pe_bm PySem.F.plainAttrs_list PySem.F.slot_list_extend PySem.F.type_list_extend mt_extT (pv 1) (pa_cons (pv 3) pa_nil))))
          pss_nil))))
      (pss_one (ps_ret (pv 1))))), ?_⟩
  obtain ⟨z, ds, fm, rfl, hl, hlen, hfit⟩ := ins_form hi
  obtain ⟨hf1, hf2, hf3⟩ := forms_ok _ (lookup_mem hl)
  dsimp only at hf1 hf2 hf3
  obtain ⟨a, xs0, rfl, ha, hall0⟩ := hd.tupI
  cases hall0 with
  | @cons x0 xs _ _ h0 hall =>
  cases h0
  have hl1 : xs.length = ds.length := EX2.DqAll.length hall
  have hgd : drawD (.tuple (.str z :: ds)) = (List.range fm.length).flatMap (drS fm ds) := by
    show (match K03.forms.lookup z with | some fm => drawT fm ds | none => []) = _
    rw [hl]
    rfl
  rw [hgd] at hQ
  rcases D.look z with ⟨fm', tk, hl', hns⟩ | ⟨hl', _⟩
  case inr => rw [hl] at hl'; cases hl'
  have e : fm' = fm := by rw [hl] at hl'; exact (Option.some.inj hl').symm
  subst e
  refine ⟨Nat.zero_le _, fun L hL => ?_⟩
  have eL := Evl.Ex.new (o := .lst []) hL
  refine ⟨_, rfl, _, _, 0, .str z, rfl, rfl, SqT.of (eL _ _ ha), at0, z, _, .str fm', rfl, rfl, hns, ⟨tk, rfl⟩, _, rfl, _, rfl, ?_⟩
  refine ⟨_, _, rfl, SqT.of (eL _ _ ha), by rw [(cut1 _ _).2]; omega, fun p1 hp1 => ?_⟩
  rw [(cut1 _ _).1]
  have hp1s : (upd (upd H L (.lst [])) p1 (.tup xs)) p1 = some (.tup xs) := upd_same
  have e1 := Evl.Ex.new (o := .tup xs) hp1
  have hL1 := e1 _ _ (upd_same (H := H) (a := L) (o := .lst []))
  have np : p1 ≠ L := ne_of hp1s hL1 (fun z => nomatch z)
  have hp1H : H p1 = none := by rw [upd_ne np] at hp1; exact hp1
  refine ⟨fm', p1, xs, rfl, hf2, SqT.of hp1s, ?_⟩
  have eH := eL.trans e1
  generalize (upd (upd H L (.lst [])) p1 (.tup xs)) = H1 at hp1s hL1 eH
  refine for_it (ZS.walk_zipS (z := fm') (ys := xs) (n := fm'.length) ?_) (fun j σ H2 => Evl.Ex H H2 ∧ H2 p1 = some (.tup xs) ∧ H2 L = some (.lst (((List.range j).flatMap (drS fm' ds)).map vI)) ∧ ((List.range j).flatMap (drS fm' ds)).length ≤ 4 * j ∧ ∃ v2 v3, σ = [some (.ref a), some (.ref L), v2, v3])
    ⟨eH, hp1s, hL1, by simp, none, none, rfl⟩ (fun j σ H2 _ h => SqT.of h.2.1) ?_ ?_
  · show fm'.cps.size = _
    rw [hl1, hlen]
    exact (Nat.min_self _).symm
  · rintro j x σ H2 H3 hj ⟨e2, hp2, hL2, hsz, v2, v3, rfl⟩ ⟨T0, x1, y1, rfl, hT, rfl, hx1, hy1⟩
    obtain ⟨c, hc, rfl⟩ : ∃ c, fm'.cps[j]? = some c ∧ x1 = .str ⟨#[c]⟩ := by
      have hx1 : (fm'.cps[j]?.map fun c => V.str ⟨#[c]⟩) = some x1 := hx1
      cases hz : fm'.cps[j]? with
      | none => rw [hz] at hx1; cases hx1
      | some c => rw [hz] at hx1; exact ⟨c, rfl, (Option.some.inj hx1).symm⟩
    obtain ⟨dj, hdj, hxj⟩ := hall.get hy1
    have eg1 : fm'.cps.toList.getD j 0 = c := by rw [List.getD_eq_getElem?_getD, Array.getElem?_toList, hc]; rfl
    have eg2 : ds.getD j .none = dj := by rw [List.getD_eq_getElem?_getD, hdj]; rfl
    have hfj := hfit j hj
    rw [eg1, eg2] at hfj
    have eT := Evl.Ex.new (o := .tup [.str ⟨#[c]⟩, y1]) hT
    have hL3 := eT _ _ hL2
    have hp3 := eT _ _ hp2
    have e3 := e2.trans eT
    have hxj3 := hxj.ext e3
    have hdr : drS fm' ds j = if c = 114 then [dj] else if c = 120 then itemsD dj else [] := by unfold drS; rw [eg1, eg2]
    refine ⟨T0, _, rfl, SqT.of upd_same, rfl, _, _, rfl, _, _, rfl, rfl, ?_⟩
    generalize (upd H2 T0 (.tup [.str ⟨#[c]⟩, y1])) = H4 at hL3 hp3 e3 hxj3
    have npT : ∀ {us : List V}, p1 ≠ L := np
    refine ⟨_, rfl, rfl, _, rfl, ?_⟩
    rw [sg_eq (k := 114) (by decide +kernel)]
    have hszL : (((List.range j).flatMap (drS fm' ds)).map vI).length ≤ 28 := by
      rw [List.length_map]
      have : j < fm'.length := hj
      omega
    by_cases k1 : c = 114
    · rw [decide_eq_true k1]
      rw [if_pos k1] at hdr
      subst k1
      obtain ⟨i, rfl⟩ := inR_int' (show inR 0 9 dj = true from hfj)
      cases hxj3
      refine iteT ⟨_, rfl, .inl ⟨rfl, _, SqL.of hL3⟩, _, rfl, L, _, _, rfl, rfl, hL3, Nat.lt_of_le_of_lt hszL (by rw [sizeLine_eq]; decide), ?_⟩
      refine ⟨_, rfl, rfl, _, rfl, ?_⟩
      rw [sg_eq (k := 120) (by decide +kernel), decide_eq_false (by decide)]
      refine iteF ⟨e3.mut hL, by rw [upd_ne np]; exact hp3, ?_, ?_, _, _, rfl⟩
      · rw [upd_same, drawT_succ, List.map_append, hdr]
        rfl
      · rw [drawT_succ, List.length_append, hdr]
        show _ + 1 ≤ _
        omega
    · rw [decide_eq_false k1]
      rw [if_neg k1] at hdr
      refine iteF ⟨_, rfl, rfl, _, rfl, ?_⟩
      rw [sg_eq (k := 120) (by decide +kernel)]
      by_cases k2 : c = 120
      · rw [decide_eq_true k2]
        rw [if_pos k2] at hdr
        subst k2
        obtain ⟨l, rfl⟩ := fits_tup (.inl rfl) hfj
        obtain ⟨b, zs, rfl, hb, hzs⟩ := hxj3.tupI
        have hfl : (decide (l.length ≤ 4) && l.all (elC 120)) = true := hfj
        rw [Bool.and_eq_true, decide_eq_true_eq, List.all_eq_true] at hfl
        have hzl := DqAll.length hzs
        have hzi := ints_of hzs fun d hd => inR_int' (lo := 0) (hi := 9) (hfl.2 d hd)
        refine iteT ⟨_, rfl, .inl ⟨rfl, _, SqL.of hL3⟩, _, rfl, L, b, _, _, rfl, rfl, hL3, SqT.of hb, le_line (by omega), ?_⟩
        refine ⟨e3.mut hL, by rw [upd_ne np]; exact hp3, ?_, ?_, _, _, rfl⟩
        · rw [upd_same, drawT_succ, List.map_append, hdr, hzi]
          rfl
        · rw [drawT_succ, List.length_append, hdr]
          show _ + l.length ≤ _
          omega
      · rw [decide_eq_false k2]
        rw [if_neg k2] at hdr
        refine iteF ⟨e3, hp3, ?_, ?_, _, _, rfl⟩
        · rw [hL3, drawT_succ, hdr, List.append_nil]
        · rw [drawT_succ, hdr, List.append_nil]
          omega
  · rintro σ H2 ⟨e2, _, hL2, _, v2, v3, rfl⟩
    exact ⟨_, rfl, hQ L H2 e2 hL hL2⟩
theorem filt_flat {ds : List PyData} {fm : Str} (v : Nat → V) (hv : ∀ i, i < fm.length → fm.cps.toList.getD i 0 = 106 → v i = vI (ds.getD i .none)) : (((List.range fm.length).filter fun i => decide (fm.cps.toList.getD i 0 = 106)).map v) = (tgtT fm ds).map vI := by
  unfold tgtT
  have : ∀ n, n ≤ fm.length → (((List.range n).filter fun i => decide (fm.cps.toList.getD i 0 = 106)).map v) = ((List.range n).flatMap fun i => if fm.cps.toList.getD i 0 = 106 then [ds.getD i .none] else []).map vI := by
    intro n
    induction n with
    | zero => intro _; rfl
    | succ n ih =>
      intro hn
      rw [List.range_succ, List.filter_append, List.map_append, ih (by omega), List.flatMap_append, List.map_append]
      congr 1
      by_cases h : fm.cps.toList.getD n 0 = 106
      · simp only [List.filter_cons, List.filter_nil, decide_eq_true h, if_true, List.map_cons, List.map_nil, List.flatMap_cons, List.flatMap_nil, if_pos h, List.append_nil]
        rw [hv n (by omega) h]
      · simp only [List.filter_cons, List.filter_nil, decide_eq_false h, List.map_nil, List.flatMap_cons, List.flatMap_nil, if_neg h, List.append_nil, Bool.false_eq_true, if_false]
  exact this _ (Nat.le_refl _)
abbrev ntargets : List Str := ["instruction", "form", "sign", "item"]
theorem sctargets : FnScope ntargets ["instruction"] (defScope stargets) := ⟨rfl, rfl, rfl, by decide +kernel, rfl, by decide +kernel, by decide +kernel⟩
theorem ok_targets (F : FnP K "targets_in" stargets f fd) (D : Defs w K mg) : FnOk P w K mg base CX0 1 f fd ["instruction"] (spInts tgtD) := by
  have T := D.t
  obtain ⟨es, n, kd⟩ := D.kd
  refine F.ok sctargets spInts_len (fun cdv A outer s H vs Q E hr h => ?_)
  obtain ⟨x, d, rfl, hd, hk, hi, hQ⟩ := h
  refine ⟨_, PSs.nox (pss_cons (ps_set (i := 1) sctargets.nd rfl (Or.inl rfl) (EX2.pe_kd kd (pe_glob rfl D.forms (v := .ref (He.ga K "FORMS")) rfl) (pe_ix ix_tup (pv 0) pe_int (fun _ _ => rfl)) (fun _ _ => rfl)))
      (pss_one (ps_ret (pe_lc (own := [("sign", 2), ("item", 3)]) (g := gTup K 2 (gCons (gName 2) (gCons (gName 3) gNil))) rfl sctargets.nd (ZS.pi_zipS rfl T.zip (pa_cons (pv 1) (pa_cons (pe_slice sl_tup (pv 0) (po_some pe_int) po_none) pa_nil))) (blkOk_by (N := ntargets) (sc := defScope stargets) (by decide +kernel)) (fun _ _ _ _ _ => (pg_tup rfl (pgs_cons (pg_name (i := 2) sctargets.nd rfl (Or.inl rfl)) (pgs_cons (pg_name (i := 3) sctargets.nd rfl (Or.inl rfl)) pgs_nil)))) (fun _ _ _ _ _ => (pts_one (pt_cmpR op_eq (pv 2) pe_str (nomark _)))) (fun _ _ _ _ _ => (pv 3)))))), ?_⟩
  obtain ⟨z, ds, fm, rfl, hl, hlen, hfit⟩ := ins_form hi
  obtain ⟨hf1, hf2, hf3⟩ := forms_ok _ (lookup_mem hl)
  dsimp only at hf1 hf2 hf3
  obtain ⟨a, xs0, rfl, ha, hall0⟩ := hd.tupI
  cases hall0 with
  | @cons x0 xs _ _ h0 hall =>
  cases h0
  have hl1 : xs.length = ds.length := EX2.DqAll.length hall
  have hgd : tgtD (.tuple (.str z :: ds)) = tgtT fm ds := by
    show (match K03.forms.lookup z with | some fm => tgtT fm ds | none => []) = _
    rw [hl]
  rw [hgd] at hQ
  rcases D.look z with ⟨fm', tk, hl', hns⟩ | ⟨hl', _⟩
  case inr => rw [hl] at hl'; cases hl'
  have e : fm' = fm := by rw [hl] at hl'; exact (Option.some.inj hl').symm
  subst e
  refine ⟨_, rfl, _, _, 0, .str z, rfl, rfl, SqT.of ha, at0, z, _, .str fm', rfl, rfl, hns, ⟨tk, rfl⟩, ?_⟩
  refine ⟨_, rfl, _, rfl, _, rfl, _, _, rfl, SqT.of ha, by rw [(cut1 _ _).2]; omega, fun p1 hp1 => ?_⟩
  rw [(cut1 _ _).1]
  have e1 := Evl.Ex.new (o := .tup xs) hp1
  have hp1s : (upd H p1 (.tup xs)) p1 = some (.tup xs) := upd_same
  refine ⟨fm', p1, xs, rfl, hf2, SqT.of upd_same, fun D0 hD => ?_⟩
  refine EX2.lc_filt (ZS.walk_zipS (z := fm') (ys := xs) (n := fm'.length) ?_) hD (fun H' e => SqT.of (e _ _ hp1s)) (fun i => decide (fm'.cps.toList.getD i 0 = 106)) (fun i => xs.getD i .non) (Nat.le_trans hf1 (by decide)) ?_ ?_ ?_
  · show fm'.cps.size = _
    rw [hl1, hlen]
    exact (Nat.min_self _).symm
  · rintro j H3 x H4 _ _ ⟨T, x1, y1, rfl, hT, rfl, _⟩
    exact Evl.Ex.new hT
  · rintro j x H3 H4 hj e3 e4 ⟨T0, x1, y1, rfl, hT, rfl, hx1, hy1⟩ Qa Qb hQa hQb
    obtain ⟨c, hc, rfl⟩ : ∃ c, fm'.cps[j]? = some c ∧ x1 = .str ⟨#[c]⟩ := by
      have hx1 : (fm'.cps[j]?.map fun c => V.str ⟨#[c]⟩) = some x1 := hx1
      cases hz : fm'.cps[j]? with
      | none => rw [hz] at hx1; cases hx1
      | some c => rw [hz] at hx1; exact ⟨c, rfl, (Option.some.inj hx1).symm⟩
    have eg1 : fm'.cps.toList.getD j 0 = c := by rw [List.getD_eq_getElem?_getD, Array.getElem?_toList, hc]; rfl
    have eg2 : xs.getD j .non = y1 := by rw [List.getD_eq_getElem?_getD, show xs[j]? = some y1 from hy1]; rfl
    rw [eg1] at hQa hQb
    rw [eg2] at hQa
    refine ⟨T0, _, rfl, SqT.of upd_same, rfl, _, _, rfl, _, _, rfl, rfl, ?_⟩
    refine ⟨rfl, _, rfl, rfl, _, rfl, ?_⟩
    rw [sg_eq (k := 106) (by decide +kernel)]
    cases hb : decide (c = 106) with
    | true => exact iteT ⟨_, rfl, hQa _ (Evl.Ex.refl _) hb⟩
    | false => exact iteF (hQb _ (Evl.Ex.refl _) hb)
  · intro H3 e3 hD3
    have hDH : H D0 = none := by
      rw [upd_ne (by rintro rfl; rw [upd_same] at hD; cases hD)] at hD
      exact hD
    refine hQ D0 H3 (e1.trans e3) hDH ?_
    rw [hD3, filt_flat (ds := ds)]
    intro i hi h106
    have hds : i < ds.length := by omega
    obtain ⟨x, hx, hxd⟩ := hall.getD (List.getElem?_eq_getElem hds)
    have hfi := hfit i hi
    rw [h106] at hfi
    have egd : ds.getD i .none = ds[i] := by rw [List.getD_eq_getElem?_getD, List.getElem?_eq_getElem hds]; rfl
    rw [egd] at hfi ⊢
    obtain ⟨k, hk2⟩ := inR_int' (show inR 0 39 ds[i] = true from hfi)
    rw [hk2] at hxd ⊢
    cases hxd
    rw [List.getD_eq_getElem?_getD, hx]
    rfl
end
end K03
set_option Elab.async false
set_option linter.all false
set_option maxRecDepth 100000
set_option maxHeartbeats 0
namespace K03
open PySem PySem.Spec PyProof.Rows L2 EX2
def itemsOf : PyData → List PyData
  | .list ds => ds
  | .tuple ds => ds
  | _ => []
def codeOk (m : Int) (n : Nat) (e : PyData) : Bool := (drawD e).all (ltD m) && (tgtD e).all (ltD n)
def codeD (m : Int) (d : PyData) : Bool := seqD 40 d && decide ((itemsOf d).length ≠ 0) && (itemsOf d).all insD && (itemsOf d).all (codeOk m (itemsOf d).length)
def spCode : Sp := fun vs H Q _ => ∃ (x : V) (d : PyData) (m : Int), vs = [x, .int m] ∧ Dq H x d ∧ okD d = true ∧ ∀ H', Evl.Ex H H' → Q (.bl (codeD m d)) H'
theorem drS_ok {fm : Str} {ds : List PyData} {i : Nat} (h : fitsC (fm.cps.toList.getD i 0) (ds.getD i .none) = true) : (∀ e ∈ drS fm ds i, ∃ k, e = .int k) ∧ (drS fm ds i).length ≤ 4 := by
  unfold drS
  by_cases k1 : fm.cps.toList.getD i 0 = 114
  · rw [if_pos k1]
    rw [k1] at h
    obtain ⟨k, hk⟩ := inR_int' (show inR 0 9 _ = true from h)
    exact ⟨fun e he => by rw [List.mem_singleton] at he; exact ⟨k, he.trans hk⟩, by simp⟩
  · rw [if_neg k1]
    by_cases k2 : fm.cps.toList.getD i 0 = 120
    · rw [if_pos k2]
      rw [k2] at h
      obtain ⟨l, hl⟩ := fits_tup (.inl rfl) h
      rw [hl] at h ⊢
      have hfl : (decide (l.length ≤ 4) && l.all (elC 120)) = true := h
      rw [Bool.and_eq_true, decide_eq_true_eq, List.all_eq_true] at hfl
      exact ⟨fun e he => inR_int' (lo := 0) (hi := 9) (hfl.2 e he), hfl.1⟩
    · rw [if_neg k2]
      exact ⟨fun e he => (nomatch he), by simp⟩
theorem flat_len {f : Nat → List PyData} {n c : Nat} (h : ∀ i, i < n → (f i).length ≤ c) : ((List.range n).flatMap f).length ≤ c * n := by
  induction n with
  | zero => simp
  | succ n ih =>
    rw [List.range_succ, List.flatMap_append, List.length_append]
    have h1 := ih fun i hi => h i (by omega)
    have h2 := h n (by omega)
    simp only [List.flatMap_cons, List.flatMap_nil, List.append_nil]
    rw [Nat.mul_succ]
    omega
section
variable {d : PyData}
theorem draw_eq {z fm : Str} {ds : List PyData} (hl : K03.forms.lookup z = some fm) : drawD (.tuple (.str z :: ds)) = (List.range fm.length).flatMap (drS fm ds) := by
  show (match K03.forms.lookup z with | some fm => drawT fm ds | none => []) = _
  rw [hl]
  rfl
theorem draw_int (h : insD d = true) : ∀ e ∈ drawD d, ∃ k, e = .int k := by
  obtain ⟨z, ds, fm, rfl, hl, hlen, hfit⟩ := ins_form h
  rw [draw_eq hl]
  intro e he
  obtain ⟨i, hi, he⟩ := List.mem_flatMap.mp he
  exact (drS_ok (hfit i (List.mem_range.mp hi))).1 e he
theorem draw_len (h : insD d = true) : (drawD d).length ≤ 28 := by
  obtain ⟨z, ds, fm, rfl, hl, hlen, hfit⟩ := ins_form h
  rw [draw_eq hl]
  have h1 := (forms_ok _ (lookup_mem hl)).1
  have h2 := flat_len (n := fm.length) (c := 4) (fun i hi => (drS_ok (hfit i hi)).2)
  dsimp only at h1
  omega
def tgS (fm : Str) (ds : List PyData) (i : Nat) : List PyData := if fm.cps.toList.getD i 0 = 106 then [ds.getD i .none] else []
theorem tgt_eq {z fm : Str} {ds : List PyData} (hl : K03.forms.lookup z = some fm) : tgtD (.tuple (.str z :: ds)) = (List.range fm.length).flatMap (tgS fm ds) := by
  show (match K03.forms.lookup z with | some fm => tgtT fm ds | none => []) = _
  rw [hl]
  rfl
theorem tgS_ok {fm : Str} {ds : List PyData} {i : Nat} (h : fitsC (fm.cps.toList.getD i 0) (ds.getD i .none) = true) : (∀ e ∈ tgS fm ds i, ∃ k, e = .int k) ∧ (tgS fm ds i).length ≤ 1 := by
  unfold tgS
  by_cases k1 : fm.cps.toList.getD i 0 = 106
  · rw [if_pos k1]
    rw [k1] at h
    obtain ⟨k, hk⟩ := inR_int' (show inR 0 39 _ = true from h)
    exact ⟨fun e he => by rw [List.mem_singleton] at he; exact ⟨k, he.trans hk⟩, by simp⟩
  · rw [if_neg k1]
    exact ⟨fun e he => (nomatch he), by simp⟩
theorem tgt_int (h : insD d = true) : ∀ e ∈ tgtD d, ∃ k, e = .int k := by
  obtain ⟨z, ds, fm, rfl, hl, hlen, hfit⟩ := ins_form h
  rw [tgt_eq hl]
  intro e he
  obtain ⟨i, hi, he⟩ := List.mem_flatMap.mp he
  exact (tgS_ok (hfit i (List.mem_range.mp hi))).1 e he
theorem tgt_len (h : insD d = true) : (tgtD d).length ≤ 28 := by
  obtain ⟨z, ds, fm, rfl, hl, hlen, hfit⟩ := ins_form h
  rw [tgt_eq hl]
  have h1 := (forms_ok _ (lookup_mem hl)).1
  have h2 := flat_len (n := fm.length) (c := 1) (fun i hi => (tgS_ok (hfit i hi)).2)
  dsimp only at h1
  omega
end
section
variable {P : Program} {w : World} {K : PySem.W.Frag} {mg : Str → Option Value} {base : Heap} {f : Addr} {fd : FuncData}
abbrev ncode : List Str := ["value", "size", "item", "drawer", "target"]
theorem sccode : FnScope ncode ["value", "size"] (defScope scode) := ⟨rfl, rfl, rfl, by decide +kernel, rfl, by decide +kernel, by decide +kernel⟩
theorem ok_code (F : FnP K "is_code" scode f fd) (D : Defs w K mg) : FnOk P w K mg base CX0 5 f fd ["value", "size"] spCode := by
  have T := D.t
  obtain ⟨tC, gC⟩ := D.code40
  obtain ⟨fI, fdI, gI, FI⟩ := D.is_instruction
  have GI : FnOk P w K mg base CX0 4 fI fdI ["value"] (spD insD) := ok_ins FI D
  have bI : Binds K fdI ["value"] [] := FI.bindsN fun _ _ _ _ _ _ us hl => match us, hl with | [_], _ => rfl
  obtain ⟨fS, fdS, gS, FS⟩ := D.is_sequence
  have GS : FnOk P w K mg base CX0 1 fS fdS ["obj", "most"] spSeq := ok_seq FS D
  have bS : Binds K fdS ["obj", "most"] [] := FS.bindsN fun _ _ _ _ _ _ us hl => match us, hl with | [_, _], _ => rfl
  obtain ⟨fR, fdR, gR, FR⟩ := D.drawers_in
  have GR : FnOk P w K mg base CX0 1 fR fdR ["instruction"] (spInts drawD) := ok_drawers FR D
  have bR : Binds K fdR ["instruction"] [] := FR.bindsN fun _ _ _ _ _ _ us hl => match us, hl with | [_], _ => rfl
  obtain ⟨fT, fdT, gT, FT⟩ := D.targets_in
  have GT : FnOk P w K mg base CX0 1 fT fdT ["instruction"] (spInts tgtD) := ok_targets FT D
  have bT : Binds K fdT ["instruction"] [] := FT.bindsN fun _ _ _ _ _ _ us hl => match us, hl with | [_], _ => rfl
  refine F.ok sccode (fun vs H Q E h => ?_) (fun cdv A outer s H vs Q E hr h => ?_)
  · obtain ⟨x, d, m, rfl, _⟩ := h
    rfl
  · obtain ⟨x, d, m, rfl, hd, hk, hQ⟩ := h
    refine ⟨_, PSs.nox (pss_cons (ps_if (PW.pt (pw_or (pt_not (pt_val (pe_call GS (hr.mono (by decide)) rfl gS FS.kp bS .nil pass0 (pa_cons (pv 0) (pa_cons (pe_glob rfl gC (v := .int 40) ⟨tC, rfl⟩) pa_nil))))) (pw_or (pt_cmpR op_eq (pe_callB call_len rfl T.len boot_len (pa_cons (pv 0) pa_nil)) pe_int (nomark _)) (pw_or1 (pt_not (pt_val (pe_callB (cr_all rfl) rfl T.all boot_all (pa_cons (pe_lc (own := [("item", 2)]) (g := gName 2) (tt := tYes) rfl sccode.nd (pi_seqq (pv 0)) (blkOk_by (N := ncode) (sc := defScope scode) (by decide +kernel)) (fun _ _ _ _ _ => (pg_name (i := 2) sccode.nd rfl (Or.inl rfl))) (fun _ _ _ _ _ => pts_nil) (fun _ _ _ _ _ => (pe_call GI (hr.mono (by decide)) rfl gI FI.kp bI .nil pass0 (pa_cons (pv 2) pa_nil)))) pa_nil))))))))
        (pss_one (ps_ret pe_bl))
        pss_nil)
      (pss_cons (ps_for PassesOwn.never rfl (pi_seqq (pv 0)) (pg_name (i := 2) sccode.nd rfl (Or.inl rfl))
        (pss_cons (ps_if (pt_val (pe_callB (cr_any rfl) rfl T.any boot_any (pa_cons (pe_lc (own := [("drawer", 3)]) (g := gName 3) (tt := tYes) rfl sccode.nd (pi_list (pe_call GR (hr.mono (by decide)) rfl gR FR.kp bR .nil pass0 (pa_cons (pv 2) pa_nil))) (blkOk_by (N := ncode) (sc := defScope scode) (by decide +kernel)) (fun _ _ _ _ _ => (pg_name (i := 3) sccode.nd rfl (Or.inl rfl))) (fun _ _ _ _ _ => pts_nil) (fun _ _ _ _ _ => (pe_cmpR op_ge (pv 3) (pv 1) (nomark _)))) pa_nil)))
          (pss_one (ps_ret pe_bl))
          pss_nil)
        (pss_one (ps_if (pt_val (pe_callB (cr_any rfl) rfl T.any boot_any (pa_cons (pe_lc (own := [("target", 4)]) (g := gName 4) (tt := tYes) rfl sccode.nd (pi_list (pe_call GT (hr.mono (by decide)) rfl gT FT.kp bT .nil pass0 (pa_cons (pv 2) pa_nil))) (blkOk_by (N := ncode) (sc := defScope scode) (by decide +kernel)) (fun _ _ _ _ _ => (pg_name (i := 4) sccode.nd rfl (Or.inl rfl))) (fun _ _ _ _ _ => pts_nil) (fun _ _ _ _ _ => (pe_cmpR op_ge (pv 4) (pe_callB (r := rLen K) call_len rfl T.len boot_len (pa_cons (pv 0) pa_nil)) (nomark _)))) pa_nil)))
          (pss_one (ps_ret pe_bl))
          pss_nil))))
      (pss_one (ps_ret pe_bl)))), ?_⟩
    refine ⟨_, rfl, x, d, 40, rfl, hd, fun H0 e0 => ⟨_, rfl, ?_⟩⟩
    cases hsq : seqD 40 d with
    | false =>
      have q := hQ H0 e0
      rw [show codeD m d = false from by unfold codeD; rw [hsq]; rfl] at q
      exact iteT q
    | true =>
    cases d with
    | list ds =>
      obtain ⟨a, xs, rfl, ha, hall⟩ := hd.lstI
      have hl : xs.length = ds.length := DqAll.length hall
      have hS : SqL K H a xs := SqL.of ha
      refine iteF ⟨_, rfl, _, _, rfl, .inl ⟨_, SqL.of (e0 _ _ ha), rfl⟩, rfl, _, rfl, ?_⟩
      have q1 : ∀ H', Evl.Ex H0 H' → Q (.bl (codeD m (.list ds))) H' := fun H' e => hQ H' (e0.trans e)
      have ec : codeD m (.list ds) = (decide (ds.length ≠ 0) && ds.all insD && ds.all (codeOk m ds.length)) := by
        show (seqD 40 (.list ds) && decide (ds.length ≠ 0) && ds.all insD && ds.all (codeOk m ds.length)) = _
        rw [hsq, Bool.true_and]
      rw [ec] at q1
      by_cases hz : ds.length = 0
      · rw [show decide (V.int ((xs.length : Nat) : Int) = V.int 0) = true from decide_eq_true (by rw [hl, hz]; rfl)]
        rw [show decide (ds.length ≠ 0) = false from decide_eq_false (by simp [hz]), Bool.false_and, Bool.false_and] at q1
        exact iteT (q1 _ (Evl.Ex.refl _))
      rw [show decide (V.int ((xs.length : Nat) : Int) = V.int 0) = false from decide_eq_false (fun z => by have := V.int.inj z; omega)]
      rw [show decide (ds.length ≠ 0) = true from decide_eq_true hz, Bool.true_and] at q1
      have hle : ds.length ≤ 40 := by
        have : decide ((ds.length : Int) ≤ 40) = true := hsq
        have := of_decide_eq_true this
        omega
      have hkd : ∀ e ∈ ds, okD e = true := okAll_mem hk
      have ha0 := e0 _ _ ha
      have hall0 := hall.ext e0
      refine iteF ⟨_, rfl, _, rfl, .inl ⟨⟨_, SqL.of ha0⟩, fun D1 hD1 => ?_⟩⟩
      refine EX2.lc_map (walk_list (xs := xs)) hD1 (fun H' e => SqL.of (e _ _ ha0)) (fun j => .bl (insD (ds.getD j .none))) (by omega) (fun j H3 x H4 _ _ y => by rw [y.1]; exact Evl.Ex.refl _) ?_ ?_
      · rintro j x H3 H4 hj e3 _ ⟨rfl, hx⟩ Qt hQt
        obtain ⟨dj, hdj, hxj⟩ := hall0.get hx
        have egd : ds.getD j .none = dj := by rw [List.getD_eq_getElem?_getD, hdj]; rfl
        rw [egd] at hQt
        exact ⟨rfl, _, rfl, x, dj, rfl, hxj.ext e3, hkd dj (List.mem_of_getElem? hdj), hQt⟩
      intro H1 e1 hD1s
      refine ⟨D1, (List.range xs.length).map fun j => insD (ds.getD j .none), rfl, SqL.of ?_, ?_⟩
      · rw [hD1s, List.map_map]
        rfl
      rw [hl, EX2.map_range_get ds insD _ (fun i e he => by rw [List.getD_eq_getElem?_getD, he]; rfl), List.all_map, show (id ∘ insD) = insD from rfl]
      have q2 := fun H' e => q1 H' (e1.trans e)
      cases hins : ds.all insD with
      | false =>
        rw [hins, Bool.false_and] at q2
        exact ⟨_, rfl, iteT (q2 _ (Evl.Ex.refl _))⟩
      | true =>
      rw [hins, Bool.true_and] at q2
      refine ⟨_, rfl, iteF ?_⟩
      have ha1 := e1 _ _ ha0
      have hall1 := hall0.ext e1
      have hin : ∀ e ∈ ds, insD e = true := List.all_eq_true.mp hins
      refine ⟨_, rfl, _, rfl, .inl ⟨⟨_, SqL.of ha1⟩, ?_⟩⟩
      refine for_it (walk_list (xs := xs)) (fun j σ H2 => Evl.Ex H1 H2 ∧ (∀ i e, i < j → ds[i]? = some e → codeOk m ds.length e = true) ∧ ∃ v2, σ = [some (.ref a), some (.int m), v2, none, none]) ⟨Evl.Ex.refl _, fun i e hi => absurd hi (Nat.not_lt_zero _), none, rfl⟩ (fun j σ H2 _ h => SqL.of (h.1 _ _ ha1)) ?_ ?_
      · rintro j x σ H2 H3 hj ⟨e2, hpre, v2, rfl⟩ ⟨rfl, hx⟩
        obtain ⟨dj, hdj, hxj⟩ := hall1.get hx
        have hkj := hkd dj (List.mem_of_getElem? hdj)
        have hij := hin dj (List.mem_of_getElem? hdj)
        have hbad : codeOk m ds.length dj = false → ds.all (codeOk m ds.length) = false := fun h => by
          rw [Bool.eq_false_iff]
          intro z
          have := List.all_eq_true.mp z dj (List.mem_of_getElem? hdj)
          rw [h] at this
          cases this
        refine ⟨_, rfl, x, dj, rfl, hxj.ext e2, hkj, hij, fun L H4 e4 hL hLs => ?_⟩
        refine ⟨L, rfl, ⟨_, SqL.of hLs⟩, fun D2 hD2 => ?_⟩
        refine EX2.lc_map (walk_list (xs := (drawD dj).map vI)) hD2 (fun H' e => SqL.of (e _ _ hLs)) (fun i => .bl (!ltD m ((drawD dj).getD i .none))) (by rw [List.length_map]; exact Nat.le_trans (draw_len hij) (by decide)) (fun i H3 x H4 _ _ y => by rw [y.1]; exact Evl.Ex.refl _) ?_ ?_
        · rintro i y H5 H6 hi e5 _ ⟨rfl, hy⟩ Qt hQt
          rw [List.getElem?_map] at hy
          obtain ⟨di, hdi, rfl⟩ : ∃ di, (drawD dj)[i]? = some di ∧ y = vI di := by
            cases hz : (drawD dj)[i]? with
            | none => rw [hz] at hy; cases hy
            | some di => rw [hz] at hy; exact ⟨di, rfl, (Option.some.inj hy).symm⟩
          obtain ⟨k, rfl⟩ := draw_int hij di (List.mem_of_getElem? hdi)
          have egd : (drawD dj).getD i .none = .int k := by rw [List.getD_eq_getElem?_getD, hdi]; rfl
          rw [egd] at hQt
          refine ⟨rfl, _, rfl, _, rfl, _, _, rfl, rfl, ?_⟩
          have : (decide (k ≥ m)) = !ltD m (.int k) := by show decide (k ≥ m) = !decide (k < m); rw [← decide_not]; exact decide_eq_decide.mpr (by omega)
          rw [← this] at hQt
          exact hQt _ (Evl.Ex.refl _)
        intro H5 e5 hD2s
        refine ⟨D2, (List.range ((drawD dj).map vI).length).map fun i => !ltD m ((drawD dj).getD i .none), rfl, SqL.of (by rw [hD2s, List.map_map]; rfl), ?_⟩
        rw [List.length_map, EX2.map_range_get (drawD dj) (fun e => !ltD m e) _ (fun i e he => by rw [List.getD_eq_getElem?_getD, he]; rfl)]
        have ea : ((drawD dj).map fun e => !ltD m e).any id = !(drawD dj).all (ltD m) := by rw [List.any_map, List.not_all_eq_any_not]; rfl
        rw [ea]
        have e05 := (e2.trans e4).trans e5
        cases hda : (drawD dj).all (ltD m) with
        | false =>
          have := hbad (by unfold codeOk; rw [hda, Bool.false_and])
          rw [this] at q2
          exact ⟨_, rfl, iteT (q2 _ e05)⟩
        | true =>
        refine ⟨_, rfl, iteF ?_⟩
        refine ⟨_, rfl, x, dj, rfl, hxj.ext e05, hkj, hij, fun L2 H6 e6 hL2 hL2s => ?_⟩
        have e06 := e05.trans e6
        refine ⟨L2, rfl, ⟨_, SqL.of hL2s⟩, fun D3 hD3 => ?_⟩
        refine EX2.lc_map (walk_list (xs := (tgtD dj).map vI)) hD3 (fun H' e => SqL.of (e _ _ hL2s)) (fun i => .bl (!ltD ds.length ((tgtD dj).getD i .none))) (by rw [List.length_map]; exact Nat.le_trans (tgt_len hij) (by decide)) (fun i H3 x H4 _ _ y => by rw [y.1]; exact Evl.Ex.refl _) ?_ ?_
        · rintro i y H7 H8 hi e7 _ ⟨rfl, hy⟩ Qt hQt
          rw [List.getElem?_map] at hy
          obtain ⟨di, hdi, rfl⟩ : ∃ di, (tgtD dj)[i]? = some di ∧ y = vI di := by
            cases hz : (tgtD dj)[i]? with
            | none => rw [hz] at hy; cases hy
            | some di => rw [hz] at hy; exact ⟨di, rfl, (Option.some.inj hy).symm⟩
          obtain ⟨k, rfl⟩ := tgt_int hij di (List.mem_of_getElem? hdi)
          have egd : (tgtD dj).getD i .none = .int k := by rw [List.getD_eq_getElem?_getD, hdi]; rfl
          rw [egd] at hQt
          refine ⟨rfl, _, rfl, _, rfl, _, _, rfl, .inl ⟨_, SqL.of ((e06.trans e7) _ _ ha1), rfl⟩, _, _, rfl, rfl, ?_⟩
          rw [hl]
          have : (decide (k ≥ (ds.length : Int))) = !ltD ds.length (.int k) := by show decide (k ≥ (ds.length : Int)) = !decide (k < (ds.length : Int)); rw [← decide_not]; exact decide_eq_decide.mpr (by omega)
          rw [← this] at hQt
          exact hQt _ (Evl.Ex.refl _)
        intro H7 e7 hD3s
        refine ⟨D3, (List.range ((tgtD dj).map vI).length).map fun i => !ltD ds.length ((tgtD dj).getD i .none), rfl, SqL.of (by rw [hD3s, List.map_map]; rfl), ?_⟩
        rw [List.length_map, EX2.map_range_get (tgtD dj) (fun e => !ltD ds.length e) _ (fun i e he => by rw [List.getD_eq_getElem?_getD, he]; rfl)]
        have ea : ((tgtD dj).map fun e => !ltD ds.length e).any id = !(tgtD dj).all (ltD ds.length) := by rw [List.any_map, List.not_all_eq_any_not]; rfl
        rw [ea]
        have e07 := e06.trans e7
        cases hta : (tgtD dj).all (ltD ds.length) with
        | false =>
          have := hbad (by unfold codeOk; rw [hta, Bool.and_false])
          rw [this] at q2
          exact ⟨_, rfl, iteT (q2 _ e07)⟩
        | true =>
        refine ⟨_, rfl, iteF ⟨e07, fun i e hi he => ?_, _, rfl⟩⟩
        by_cases hij2 : i = j
        · subst hij2
          rw [hdj] at he
          cases he
          unfold codeOk
          rw [hda, hta]
          rfl
        · exact hpre i e (by omega) he
      · rintro σ H2 ⟨e2, hpre, v2, rfl⟩
        have := q2 H2 e2
        rw [show ds.all (codeOk m ds.length) = true from List.all_eq_true.mpr fun e he => by
          obtain ⟨i, hi⟩ := List.mem_iff_getElem?.mp he
          exact hpre i e (by rw [hl]; exact (List.getElem?_eq_some_iff.mp hi).1) hi] at this
        exact this
    | tuple ds =>
      obtain ⟨a, xs, rfl, ha, hall⟩ := hd.tupI
      have hl : xs.length = ds.length := DqAll.length hall
      have hS : SqT K H a xs := SqT.of ha
      refine iteF ⟨_, rfl, _, _, rfl, .inr ⟨_, SqT.of (e0 _ _ ha), rfl⟩, rfl, _, rfl, ?_⟩
      have q1 : ∀ H', Evl.Ex H0 H' → Q (.bl (codeD m (.tuple ds))) H' := fun H' e => hQ H' (e0.trans e)
      have ec : codeD m (.tuple ds) = (decide (ds.length ≠ 0) && ds.all insD && ds.all (codeOk m ds.length)) := by
        show (seqD 40 (.tuple ds) && decide (ds.length ≠ 0) && ds.all insD && ds.all (codeOk m ds.length)) = _
        rw [hsq, Bool.true_and]
      rw [ec] at q1
      by_cases hz : ds.length = 0
      · rw [show decide (V.int ((xs.length : Nat) : Int) = V.int 0) = true from decide_eq_true (by rw [hl, hz]; rfl)]
        rw [show decide (ds.length ≠ 0) = false from decide_eq_false (by simp [hz]), Bool.false_and, Bool.false_and] at q1
        exact iteT (q1 _ (Evl.Ex.refl _))
      rw [show decide (V.int ((xs.length : Nat) : Int) = V.int 0) = false from decide_eq_false (fun z => by have := V.int.inj z; omega)]
      rw [show decide (ds.length ≠ 0) = true from decide_eq_true hz, Bool.true_and] at q1
      have hle : ds.length ≤ 40 := by
        have : decide ((ds.length : Int) ≤ 40) = true := hsq
        have := of_decide_eq_true this
        omega
      have hkd : ∀ e ∈ ds, okD e = true := okAll_mem hk
      have ha0 := e0 _ _ ha
      have hall0 := hall.ext e0
      refine iteF ⟨_, rfl, _, rfl, .inr ⟨⟨_, SqT.of ha0⟩, fun D1 hD1 => ?_⟩⟩
      refine EX2.lc_map (walk_tup (xs := xs)) hD1 (fun H' e => SqT.of (e _ _ ha0)) (fun j => .bl (insD (ds.getD j .none))) (by omega) (fun j H3 x H4 _ _ y => by rw [y.1]; exact Evl.Ex.refl _) ?_ ?_
      · rintro j x H3 H4 hj e3 _ ⟨rfl, hx⟩ Qt hQt
        obtain ⟨dj, hdj, hxj⟩ := hall0.get hx
        have egd : ds.getD j .none = dj := by rw [List.getD_eq_getElem?_getD, hdj]; rfl
        rw [egd] at hQt
        exact ⟨rfl, _, rfl, x, dj, rfl, hxj.ext e3, hkd dj (List.mem_of_getElem? hdj), hQt⟩
      intro H1 e1 hD1s
      refine ⟨D1, (List.range xs.length).map fun j => insD (ds.getD j .none), rfl, SqL.of ?_, ?_⟩
      · rw [hD1s, List.map_map]
        rfl
      rw [hl, EX2.map_range_get ds insD _ (fun i e he => by rw [List.getD_eq_getElem?_getD, he]; rfl), List.all_map, show (id ∘ insD) = insD from rfl]
      have q2 := fun H' e => q1 H' (e1.trans e)
      cases hins : ds.all insD with
      | false =>
        rw [hins, Bool.false_and] at q2
        exact ⟨_, rfl, iteT (q2 _ (Evl.Ex.refl _))⟩
      | true =>
      rw [hins, Bool.true_and] at q2
      refine ⟨_, rfl, iteF ?_⟩
      have ha1 := e1 _ _ ha0
      have hall1 := hall0.ext e1
      have hin : ∀ e ∈ ds, insD e = true := List.all_eq_true.mp hins
      refine ⟨_, rfl, _, rfl, .inr ⟨⟨_, SqT.of ha1⟩, ?_⟩⟩
      refine for_it (walk_tup (xs := xs)) (fun j σ H2 => Evl.Ex H1 H2 ∧ (∀ i e, i < j → ds[i]? = some e → codeOk m ds.length e = true) ∧ ∃ v2, σ = [some (.ref a), some (.int m), v2, none, none]) ⟨Evl.Ex.refl _, fun i e hi => absurd hi (Nat.not_lt_zero _), none, rfl⟩ (fun j σ H2 _ h => SqT.of (h.1 _ _ ha1)) ?_ ?_
      · rintro j x σ H2 H3 hj ⟨e2, hpre, v2, rfl⟩ ⟨rfl, hx⟩
        obtain ⟨dj, hdj, hxj⟩ := hall1.get hx
        have hkj := hkd dj (List.mem_of_getElem? hdj)
        have hij := hin dj (List.mem_of_getElem? hdj)
        have hbad : codeOk m ds.length dj = false → ds.all (codeOk m ds.length) = false := fun h => by
          rw [Bool.eq_false_iff]
          intro z
          have := List.all_eq_true.mp z dj (List.mem_of_getElem? hdj)
          rw [h] at this
          cases this
        refine ⟨_, rfl, x, dj, rfl, hxj.ext e2, hkj, hij, fun L H4 e4 hL hLs => ?_⟩
        refine ⟨L, rfl, ⟨_, SqL.of hLs⟩, fun D2 hD2 => ?_⟩
        refine EX2.lc_map (walk_list (xs := (drawD dj).map vI)) hD2 (fun H' e => SqL.of (e _ _ hLs)) (fun i => .bl (!ltD m ((drawD dj).getD i .none))) (by rw [List.length_map]; exact Nat.le_trans (draw_len hij) (by decide)) (fun i H3 x H4 _ _ y => by rw [y.1]; exact Evl.Ex.refl _) ?_ ?_
        · rintro i y H5 H6 hi e5 _ ⟨rfl, hy⟩ Qt hQt
          rw [List.getElem?_map] at hy
          obtain ⟨di, hdi, rfl⟩ : ∃ di, (drawD dj)[i]? = some di ∧ y = vI di := by
            cases hz : (drawD dj)[i]? with
            | none => rw [hz] at hy; cases hy
            | some di => rw [hz] at hy; exact ⟨di, rfl, (Option.some.inj hy).symm⟩
          obtain ⟨k, rfl⟩ := draw_int hij di (List.mem_of_getElem? hdi)
          have egd : (drawD dj).getD i .none = .int k := by rw [List.getD_eq_getElem?_getD, hdi]; rfl
          rw [egd] at hQt
          refine ⟨rfl, _, rfl, _, rfl, _, _, rfl, rfl, ?_⟩
          have : (decide (k ≥ m)) = !ltD m (.int k) := by show decide (k ≥ m) = !decide (k < m); rw [← decide_not]; exact decide_eq_decide.mpr (by omega)
          rw [← this] at hQt
          exact hQt _ (Evl.Ex.refl _)
        intro H5 e5 hD2s
        refine ⟨D2, (List.range ((drawD dj).map vI).length).map fun i => !ltD m ((drawD dj).getD i .none), rfl, SqL.of (by rw [hD2s, List.map_map]; rfl), ?_⟩
        rw [List.length_map, EX2.map_range_get (drawD dj) (fun e => !ltD m e) _ (fun i e he => by rw [List.getD_eq_getElem?_getD, he]; rfl)]
        have ea : ((drawD dj).map fun e => !ltD m e).any id = !(drawD dj).all (ltD m) := by rw [List.any_map, List.not_all_eq_any_not]; rfl
        rw [ea]
        have e05 := (e2.trans e4).trans e5
        cases hda : (drawD dj).all (ltD m) with
        | false =>
          have := hbad (by unfold codeOk; rw [hda, Bool.false_and])
          rw [this] at q2
          exact ⟨_, rfl, iteT (q2 _ e05)⟩
        | true =>
        refine ⟨_, rfl, iteF ?_⟩
        refine ⟨_, rfl, x, dj, rfl, hxj.ext e05, hkj, hij, fun L2 H6 e6 hL2 hL2s => ?_⟩
        have e06 := e05.trans e6
        refine ⟨L2, rfl, ⟨_, SqL.of hL2s⟩, fun D3 hD3 => ?_⟩
        refine EX2.lc_map (walk_list (xs := (tgtD dj).map vI)) hD3 (fun H' e => SqL.of (e _ _ hL2s)) (fun i => .bl (!ltD ds.length ((tgtD dj).getD i .none))) (by rw [List.length_map]; exact Nat.le_trans (tgt_len hij) (by decide)) (fun i H3 x H4 _ _ y => by rw [y.1]; exact Evl.Ex.refl _) ?_ ?_
        · rintro i y H7 H8 hi e7 _ ⟨rfl, hy⟩ Qt hQt
          rw [List.getElem?_map] at hy
          obtain ⟨di, hdi, rfl⟩ : ∃ di, (tgtD dj)[i]? = some di ∧ y = vI di := by
            cases hz : (tgtD dj)[i]? with
            | none => rw [hz] at hy; cases hy
            | some di => rw [hz] at hy; exact ⟨di, rfl, (Option.some.inj hy).symm⟩
          obtain ⟨k, rfl⟩ := tgt_int hij di (List.mem_of_getElem? hdi)
          have egd : (tgtD dj).getD i .none = .int k := by rw [List.getD_eq_getElem?_getD, hdi]; rfl
          rw [egd] at hQt
          refine ⟨rfl, _, rfl, _, rfl, _, _, rfl, .inr ⟨_, SqT.of ((e06.trans e7) _ _ ha1), rfl⟩, _, _, rfl, rfl, ?_⟩
          rw [hl]
          have : (decide (k ≥ (ds.length : Int))) = !ltD ds.length (.int k) := by show decide (k ≥ (ds.length : Int)) = !decide (k < (ds.length : Int)); rw [← decide_not]; exact decide_eq_decide.mpr (by omega)
          rw [← this] at hQt
          exact hQt _ (Evl.Ex.refl _)
        intro H7 e7 hD3s
        refine ⟨D3, (List.range ((tgtD dj).map vI).length).map fun i => !ltD ds.length ((tgtD dj).getD i .none), rfl, SqL.of (by rw [hD3s, List.map_map]; rfl), ?_⟩
        rw [List.length_map, EX2.map_range_get (tgtD dj) (fun e => !ltD ds.length e) _ (fun i e he => by rw [List.getD_eq_getElem?_getD, he]; rfl)]
        have ea : ((tgtD dj).map fun e => !ltD ds.length e).any id = !(tgtD dj).all (ltD ds.length) := by rw [List.any_map, List.not_all_eq_any_not]; rfl
        rw [ea]
        have e07 := e06.trans e7
        cases hta : (tgtD dj).all (ltD ds.length) with
        | false =>
          have := hbad (by unfold codeOk; rw [hta, Bool.and_false])
          rw [this] at q2
          exact ⟨_, rfl, iteT (q2 _ e07)⟩
        | true =>
        refine ⟨_, rfl, iteF ⟨e07, fun i e hi he => ?_, _, rfl⟩⟩
        by_cases hij2 : i = j
        · subst hij2
          rw [hdj] at he
          cases he
          unfold codeOk
          rw [hda, hta]
          rfl
        · exact hpre i e (by omega) he
      · rintro σ H2 ⟨e2, hpre, v2, rfl⟩
        have := q2 H2 e2
        rw [show ds.all (codeOk m ds.length) = true from List.all_eq_true.mpr fun e he => by
          obtain ⟨i, hi⟩ := List.mem_iff_getElem?.mp he
          exact hpre i e (by rw [hl]; exact (List.getElem?_eq_some_iff.mp hi).1) hi] at this
        exact this
    | _ => cases hsq
end
end K03
set_option Elab.async false
set_option linter.all false
set_option maxRecDepth 100000
set_option maxHeartbeats 0
namespace K03
open PySem PySem.Spec PyProof.Rows L2 EX2
abbrev sInit : Stmt := inClass (top 21) 0
abbrev sParts : Stmt := inClass (top 21) 6
abbrev sEq : Stmt := inClass (top 21) 7
/-- a method's class: what the head says -/
structure MethF (K : PySem.W.Frag) (mg : Str → Option Value) : Prop where
  hm : mg "Method" = some (.ref (He.ga K "Method"))
  mkr : Mk K (He.ga K "Method") (He.ma K (He.ga K "Method") "__init__")
  cl : Cls K (He.ga K "Method")
  n1 : NoAttr K (He.ga K "Method") "own_name"
  n2 : NoAttr K (He.ga K "Method") "own_params"
  n3 : NoAttr K (He.ga K "Method") "own_result"
  n4 : NoAttr K (He.ga K "Method") "own_size"
  n5 : NoAttr K (He.ga K "Method") "own_code"
  pm : Meth K (He.ga K "Method") "parts" (He.ma K (He.ga K "Method") "parts")
  em : Meth K (He.ga K "Method") "__eq__" (He.ma K (He.ga K "Method") "__eq__")
  parts : ∃ fd, FunD K "parts" "Method.parts" (defArgs sParts) (defBody sParts) (defScope sParts) [] [] (He.ma K (He.ga K "Method") "parts") fd
  eq : ∃ fd, FunD K "__eq__" "Method.__eq__" (defArgs sEq) (defBody sEq) (defScope sEq) [] [] (He.ma K (He.ga K "Method") "__eq__") fd
  init : ∃ fd, FunD K "__init__" "Method.__init__" (defArgs sInit) (defBody sInit) (defScope sInit) [] [] (He.ma K (He.ga K "Method") "__init__") fd
/-- the exception's class -/
structure ExcF (P : Program) (w : World) (K : PySem.W.Frag) (mg : Str → Option Value) (base : Heap) : Prop where
  hm : mg "InvalidMethod" = some (.ref (He.ga K "InvalidMethod"))
  hB : mg "ClassError" = some (.ref (He.ga K "ClassError"))
  g : ClsG K (He.ga K "InvalidMethod") (He.ga K "ClassError") (ini K "InvalidMethod") ["given"]
  fn : ∃ fd, FnOk P w K mg base CX0 1 (ini K "InvalidMethod") fd ["self", "given"] (spX (He.ga K "InvalidMethod") 1 fun xs => [("given", xs.headD .non)]) ∧ Binds K fd ["self", "given"] []
  cB : ((PySem.W.clsIn K (He.ga K "ClassError")).isSome && PySem.W.typeIn K (.ref (He.ga K "ClassError")) == some (.type "type")) = true
/-- right parts -/
structure PartsOk (H : Hp) (n p r z c : V) (dn : PyData) (dp : PyData) (dr : PyData) (sz : Int) (dc : PyData) : Prop where
  hn : Dq H n dn
  hp : Dq H p dp
  hr : Dq H r dr
  hz : z = .int sz
  hc : Dq H c dc
  on : okD dn = true
  op : okD dp = true
  or : okD dr = true
  oc : okD dc = true
  kn : nameD dn = true
  kp : seqD 4 dp = true
  kt : (itemsOf dp).all typeD = true
  kr : typeD dr = true
  kz : inR (1 + (itemsOf dp).length) 10 (.int sz) = true
  kc : codeD sz dc = true
theorem PartsOk.ext {H H' : Hp} {n p r z c : V} {dn dp dr dc : PyData} {sz : Int} (h : PartsOk H n p r z c dn dp dr sz dc) (e : Evl.Ex H H') : PartsOk H' n p r z c dn dp dr sz dc :=
  { h with hn := h.hn.ext e, hp := h.hp.ext e, hr := h.hr.ext e, hc := h.hc.ext e }
def mfields (n p r z c : V) : List (Str × V) := [("own_name", n), ("own_params", p), ("own_result", r), ("own_size", z), ("own_code", c)]
def spInit (C : Addr) : Sp := fun vs H Q _ => ∃ (a dx : Addr) (n p r z c : V) (dn dp dr dc : PyData) (sz : Int), vs = [.ref a, n, p, r, z, c] ∧ H a = some (.ins C dx []) ∧ PartsOk H n p r z c dn dp dr sz dc ∧
  ∀ (H' : Hp) (p' c' : V), (∀ b o, b ≠ a → H b = some o → H' b = some o) → H' a = some (.ins C dx (mfields n p' r z c')) → Dq H' p' (.tuple (itemsOf dp)) → Dq H' c' (.tuple (itemsOf dc)) → Q .non H'
theorem seq_sq {K : PySem.W.Frag} {H : Hp} {x : V} {d : PyData} {m : Int} (h : Dq H x d) (k : seqD m d = true) : ∃ a xs, x = .ref a ∧ (H a = some (.lst xs) ∨ H a = some (.tup xs)) ∧ DqAll H xs (itemsOf d) ∧ ((itemsOf d).length : Int) ≤ m := by
  cases d with
  | list ds =>
    obtain ⟨a, xs, rfl, ha, hall⟩ := h.lstI
    exact ⟨a, xs, rfl, .inl ha, hall, of_decide_eq_true k⟩
  | tuple ds =>
    obtain ⟨a, xs, rfl, ha, hall⟩ := h.tupI
    exact ⟨a, xs, rfl, .inr ha, hall, of_decide_eq_true k⟩
  | _ => cases k
theorem okAll_items {d : PyData} (h : okD d = true) : okAll (itemsOf d) = true := by
  cases d with
  | list ds => exact h
  | tuple ds => exact h
  | _ => rfl
theorem seqq_of {K : PySem.W.Frag} {H : Hp} {a : Addr} {xs : List V} (h : H a = some (.lst xs) ∨ H a = some (.tup xs)) {R : It → Hp → Prop} (q : ∀ J, Walk J xs.length (fun H' => H' a = H a) (YAt xs) → R J H) :
    ((∃ xs, SqL K H a xs) ∧ R (Itl K a) H) ∨ ((∃ xs, SqT K H a xs) ∧ R (Itt K a) H) := by
  rcases h with h | h
  · exact .inl ⟨⟨_, SqL.of h⟩, q _ ((walk_list (K := K) (a := a) (xs := xs)).mono (fun H' e => SqL.of (e.trans h)) fun _ _ _ _ _ _ y => y)⟩
  · exact .inr ⟨⟨_, SqT.of h⟩, q _ ((walk_tup (K := K) (a := a) (xs := xs)).mono (fun H' e => SqT.of (e.trans h)) fun _ _ _ _ _ _ y => y)⟩
theorem len_of {K : PySem.W.Frag} {H : Hp} {a : Addr} {xs : List V} (h : H a = some (.lst xs) ∨ H a = some (.tup xs)) : LenV K (.ref a) H xs.length := by
  rcases h with h | h
  · exact .inl ⟨_, SqL.of h, rfl⟩
  · exact .inr ⟨_, SqT.of h, rfl⟩
theorem ex_or {H H' : Hp} {a : Addr} {xs : List V} (e : Evl.Ex H H') (h : H a = some (.lst xs) ∨ H a = some (.tup xs)) : H' a = H a := by
  rcases h with h | h <;> rw [h, e _ _ h]
section
variable {P : Program} {w : World} {K : PySem.W.Frag} {mg : Str → Option Value} {base : Heap} {f : Addr} {fd : FuncData}
abbrev nInit : List Str := ["self", "name", "params", "result", "size", "code", "kind"]
theorem scInit : FnScope nInit ["self", "name", "params", "result", "size", "code"] (defScope sInit) := ⟨rfl, rfl, rfl, by decide +kernel, rfl, by decide +kernel, by decide +kernel⟩
/-- tuple(x) of a list or a tuple -/
def rTupD : List V → Hp → VK → Prop := fun xs H Q => ∃ (x : V) (d : PyData) (m : Int), xs = [x] ∧ Dq H x d ∧ seqD m d = true ∧ ∀ (H' : Hp) (t : V), Evl.Ex H H' → Dq H' t (.tuple (itemsOf d)) → Q t H'
theorem call_tupD {X : Cx} : CallR X (.type "tuple") rTupD := by
  intro pins s σ H xs us Q I r h
  obtain ⟨x, d, m, rfl, hd, k, q⟩ := h
  refine call_tuple_of pins s σ H _ us Q I r ?_
  cases d with
  | list ds =>
    obtain ⟨p, xs, rfl, hp, hall⟩ := hd.lstI
    exact ⟨p, xs, rfl, .inl ⟨SqL.of hp, fun l hl => q _ _ (Evl.Ex.new hl) (.tup upd_same (hall.ext (Evl.Ex.new hl)))⟩⟩
  | tuple ds =>
    obtain ⟨p, xs, rfl, hp, hall⟩ := hd.tupI
    exact ⟨p, xs, rfl, .inr ⟨SqT.of hp, q _ _ (Evl.Ex.refl _) (.tup hp hall)⟩⟩
  | _ => cases k
/-- code(x), x no list and no tuple but a dict with tuple keys -/
def spCodeT : Sp := fun vs H Q _ => ∃ (a : Addr) (kvs : List (List Key × V)) (m : Int), vs = [.ref a, .int m] ∧ H a = some (.dT kvs) ∧ ∀ H', Evl.Ex H H' → Q (.bl false) H'
def spSeqT : Sp := fun vs H Q _ => ∃ (a : Addr) (kvs : List (List Key × V)) (m : Int), vs = [.ref a, .int m] ∧ H a = some (.dT kvs) ∧ ∀ H', Evl.Ex H H' → Q (.bl false) H'
theorem ok_seqT (F : FnP K "is_sequence" ssequence f fd) (D : Defs w K mg) : FnOk P w K mg base CX0 1 f fd ["obj", "most"] spSeqT := by
  have T := D.t
  refine F.ok scseq (fun vs H Q E h => ?_) (fun cdv A outer s H vs Q E hr h => ?_)
  · obtain ⟨a, kvs, m, rfl, _⟩ := h
    rfl
  · obtain ⟨a, kvs, m, rfl, ha, hQ⟩ := h
    refine ⟨_, PSs.nox (pss_one (ps_ret (pe_and (pe_callB call_isiT rfl T.isi boot_isi (pa_cons (pv 0) (pa_cons (pe_tup (pa_cons (pe_bltn rfl T.lst boot_list (v := .ty "list") rfl) (pa_cons (pe_bltn rfl T.tup boot_tuple (v := .ty "tuple") rfl) pa_nil))) pa_nil))) (pe_one (pe_cmpR op_le (pe_callB call_len rfl T.len boot_len (pa_cons (pv 0) pa_nil)) (pv 1) (nomark _)))))), ?_⟩
    refine ⟨_, rfl, le_line (by simp), fun t1 h1 => ?_⟩
    have e1 := Evl.Ex.new (o := .tup [.ty "list", .ty "tuple"]) h1
    refine ⟨.ref a, t1, _, _, _, _, rfl, upd_same, .cons (.ty _) (.cons (.ty _) .nil), .base (.dT (e1 _ _ ha)), kit_list2 (.dict []), _, rfl, ?_⟩
    exact iteF (hQ _ e1)
theorem ok_codeT (F : FnP K "is_code" scode f fd) (D : Defs w K mg) : FnOk P w K mg base CX0 5 f fd ["value", "size"] spCodeT := by
  have T := D.t
  obtain ⟨tC, gC⟩ := D.code40
  obtain ⟨fI, fdI, gI, FI⟩ := D.is_instruction
  have GI : FnOk P w K mg base CX0 4 fI fdI ["value"] (spD insD) := ok_ins FI D
  have bI : Binds K fdI ["value"] [] := FI.bindsN fun _ _ _ _ _ _ us hl => match us, hl with | [_], _ => rfl
  obtain ⟨fS, fdS, gS, FS⟩ := D.is_sequence
  have GS : FnOk P w K mg base CX0 1 fS fdS ["obj", "most"] spSeqT := ok_seqT FS D
  have bS : Binds K fdS ["obj", "most"] [] := FS.bindsN fun _ _ _ _ _ _ us hl => match us, hl with | [_, _], _ => rfl
  obtain ⟨fR, fdR, gR, FR⟩ := D.drawers_in
  have GR : FnOk P w K mg base CX0 1 fR fdR ["instruction"] (spInts drawD) := ok_drawers FR D
  have bR : Binds K fdR ["instruction"] [] := FR.bindsN fun _ _ _ _ _ _ us hl => match us, hl with | [_], _ => rfl
  obtain ⟨fT, fdT, gT, FT⟩ := D.targets_in
  have GT : FnOk P w K mg base CX0 1 fT fdT ["instruction"] (spInts tgtD) := ok_targets FT D
  have bT : Binds K fdT ["instruction"] [] := FT.bindsN fun _ _ _ _ _ _ us hl => match us, hl with | [_], _ => rfl
  refine F.ok sccode (fun vs H Q E h => ?_) (fun cdv A outer s H vs Q E hr h => ?_)
  · obtain ⟨a, kvs, m, rfl, _⟩ := h
    rfl
  · obtain ⟨a, kvs, m, rfl, ha, hQ⟩ := h
    refine ⟨_, PSs.nox (pss_cons (ps_if (PW.pt (pw_or (pt_not (pt_val (pe_call GS (hr.mono (by decide)) rfl gS FS.kp bS .nil pass0 (pa_cons (pv 0) (pa_cons (pe_glob rfl gC (v := .int 40) ⟨tC, rfl⟩) pa_nil))))) (pw_or (pt_cmpR op_eq (pe_callB call_len rfl T.len boot_len (pa_cons (pv 0) pa_nil)) pe_int (nomark _)) (pw_or1 (pt_not (pt_val (pe_callB (cr_all rfl) rfl T.all boot_all (pa_cons (pe_lc (own := [("item", 2)]) (g := gName 2) (tt := tYes) rfl sccode.nd (pi_seqq (pv 0)) (blkOk_by (N := ncode) (sc := defScope scode) (by decide +kernel)) (fun _ _ _ _ _ => (pg_name (i := 2) sccode.nd rfl (Or.inl rfl))) (fun _ _ _ _ _ => pts_nil) (fun _ _ _ _ _ => (pe_call GI (hr.mono (by decide)) rfl gI FI.kp bI .nil pass0 (pa_cons (pv 2) pa_nil)))) pa_nil))))))))
        (pss_one (ps_ret pe_bl))
        pss_nil)
      (pss_cons (ps_for PassesOwn.never rfl (pi_seqq (pv 0)) (pg_name (i := 2) sccode.nd rfl (Or.inl rfl))
        (pss_cons (ps_if (pt_val (pe_callB (cr_any rfl) rfl T.any boot_any (pa_cons (pe_lc (own := [("drawer", 3)]) (g := gName 3) (tt := tYes) rfl sccode.nd (pi_list (pe_call GR (hr.mono (by decide)) rfl gR FR.kp bR .nil pass0 (pa_cons (pv 2) pa_nil))) (blkOk_by (N := ncode) (sc := defScope scode) (by decide +kernel)) (fun _ _ _ _ _ => (pg_name (i := 3) sccode.nd rfl (Or.inl rfl))) (fun _ _ _ _ _ => pts_nil) (fun _ _ _ _ _ => (pe_cmpR op_ge (pv 3) (pv 1) (nomark _)))) pa_nil)))
          (pss_one (ps_ret pe_bl))
          pss_nil)
        (pss_one (ps_if (pt_val (pe_callB (cr_any rfl) rfl T.any boot_any (pa_cons (pe_lc (own := [("target", 4)]) (g := gName 4) (tt := tYes) rfl sccode.nd (pi_list (pe_call GT (hr.mono (by decide)) rfl gT FT.kp bT .nil pass0 (pa_cons (pv 2) pa_nil))) (blkOk_by (N := ncode) (sc := defScope scode) (by decide +kernel)) (fun _ _ _ _ _ => (pg_name (i := 4) sccode.nd rfl (Or.inl rfl))) (fun _ _ _ _ _ => pts_nil) (fun _ _ _ _ _ => (pe_cmpR op_ge (pv 4) (pe_callB (r := rLen K) call_len rfl T.len boot_len (pa_cons (pv 0) pa_nil)) (nomark _)))) pa_nil)))
          (pss_one (ps_ret pe_bl))
          pss_nil))))
      (pss_one (ps_ret pe_bl)))), ?_⟩
    refine ⟨_, rfl, a, kvs, 40, rfl, ha, fun H0 e0 => ⟨_, rfl, ?_⟩⟩
    exact iteT (hQ _ e0)
/-- parts as they come -/
structure PartsW (H : Hp) (n p r z c : V) (dn dp dr dz dc : PyData) : Prop where
  hn : Dq H n dn
  hp : Dq H p dp
  hr : Dq H r dr
  hz : Dq H z dz
  hc : (Dq H c dc ∧ okD dc = true) ∨ ∃ a kvs es, c = .ref a ∧ H a = some (.dT kvs) ∧ dc = .dict es
  on : okD dn = true
  op : okD dp = true
  or : okD dr = true
  oz : okD dz = true
theorem PartsW.ext {H H' : Hp} {n p r z c : V} {dn dp dr dz dc : PyData} (h : PartsW H n p r z c dn dp dr dz dc) (e : Evl.Ex H H') : PartsW H' n p r z c dn dp dr dz dc :=
  { h with hn := h.hn.ext e, hp := h.hp.ext e, hr := h.hr.ext e, hz := h.hz.ext e, hc := h.hc.imp (fun q => ⟨q.1.ext e, q.2⟩) fun ⟨a, kvs, es, h1, h2, h3⟩ => ⟨a, kvs, es, h1, e _ _ h2, h3⟩ }
def kindsD (dp : PyData) : Bool := seqD 4 dp && (itemsOf dp).all typeD
def codeZ (dz dc : PyData) : Bool := match dz with
  | .int sz => codeD sz dc
  | _ => false
/-- the first part that is wrong -/
def badV (n p r z c : V) (dn dp dr dz dc : PyData) : Option V :=
  if nameD dn = true then if kindsD dp = true then if typeD dr = true then if inR (1 + (itemsOf dp).length) 10 dz = true then if codeZ dz dc = true then none else some c else some z else some r else some p else some n
def spInitX (C CI : Addr) : Sp := fun vs H Q E => ∃ (a dx : Addr) (n p r z c : V) (dn dp dr dz dc : PyData), vs = [.ref a, n, p, r, z, c] ∧ H a = some (.ins C dx []) ∧ PartsW H n p r z c dn dp dr dz dc ∧
  (∀ x, badV n p r z c dn dp dr dz dc = some x → ∀ (d : Addr) (H' : Hp), Evl.Ex H H' → H' d = some (.xd [("given", x)]) → E (.ref CI) (some d) H') ∧
  (badV n p r z c dn dp dr dz dc = none → ∀ (H' : Hp) (p' c' : V), (∀ b o, b ≠ a → H b = some o → H' b = some o) → H' a = some (.ins C dx (mfields n p' r z c')) → Dq H' p' (.tuple (itemsOf dp)) → Dq H' c' (.tuple (itemsOf dc)) → Q .non H')
theorem ok_initX (F : FunD K "__init__" "Method.__init__" (defArgs sInit) (defBody sInit) (defScope sInit) [] [] f fd) (D : Defs w K mg) (M : MethF K mg) (XF : ExcF P w K mg base) : FnOk P w K mg base (L2.CX P w) 6 f fd ["self", "name", "params", "result", "size", "code"] (spInitX (He.ga K "Method") (He.ga K "InvalidMethod")) := by
  have T := D.t
  obtain ⟨tP, gP⟩ := D.params4
  obtain ⟨fN, fdN, gN, FN⟩ := D.is_name
  have GN : FnOk P w K mg base CX0 1 fN fdN ["value"] (spD nameD) := okD_name D FN
  have bN : Binds K fdN ["value"] [] := FN.bindsN fun _ _ _ _ _ _ us hl => match us, hl with | [_], _ => rfl
  obtain ⟨fT, fdT, gT, FT⟩ := D.is_type
  have GT : FnOk P w K mg base CX0 2 fT fdT ["value"] (spD typeD) := okD_type D FT
  have bT : Binds K fdT ["value"] [] := FT.bindsN fun _ _ _ _ _ _ us hl => match us, hl with | [_], _ => rfl
  obtain ⟨fS, fdS, gS, FS⟩ := D.is_sequence
  have GS : FnOk P w K mg base CX0 1 fS fdS ["obj", "most"] spSeq := ok_seq FS D
  have bS : Binds K fdS ["obj", "most"] [] := FS.bindsN fun _ _ _ _ _ _ us hl => match us, hl with | [_, _], _ => rfl
  obtain ⟨fZ, fdZ, gZ, FZ⟩ := D.is_size
  have GZ : FnOk P w K mg base CX0 2 fZ fdZ ["value", "params"] spSize := ok_size FZ D
  have bZ : Binds K fdZ ["value", "params"] [] := FZ.bindsN fun _ _ _ _ _ _ us hl => match us, hl with | [_, _], _ => rfl
  obtain ⟨fC, fdC, gC, FC⟩ := D.is_code
  have GC := FnOk.both (ok_code (P := P) (w := w) (base := base) FC D) (ok_codeT (P := P) (w := w) (base := base) FC D)
  obtain ⟨fdE, GE, bE⟩ := XF.fn
  have bC : Binds K fdC ["value", "size"] [] := FC.bindsN fun _ _ _ _ _ _ us hl => match us, hl with | [_, _], _ => rfl
  refine F.ok scInit (fun vs H Q E h => ?_) (fun cdv A outer s H vs Q E hr h => ?_)
  · obtain ⟨a, dx, n, p, r, z, c, dn, dp, dr, dz, dc, rfl, _⟩ := h
    rfl
  · obtain ⟨a, dx, n, p, r, z, c, dn, dp, dr, dz, dc, rfl, ha, ok, hX, hQ⟩ := h
    refine ⟨_, (pss_cons (ps_if (pt_not (pt_val (pe_call GN (hr.mono (by decide)) rfl gN FN.kp bN .nil pass0 (pa_cons (pv 1) pa_nil))))
        (pss_one (ps_raise rfl (takes_of rfl rfl rfl rfl) (pmk_xk XF.g.t XF.g.at_ XF.g.ty GE (hr.mono (by decide)) bE rfl XF.hm (by decide) (pa_cons (pv 1) pa_nil))))
        pss_nil)
      (pss_cons (ps_if (PW.pt (pw_or (pt_not (pt_val (pe_call GS (hr.mono (by decide)) rfl gS FS.kp bS .nil pass0 (pa_cons (pv 2) (pa_cons (pe_glob rfl gP (v := .int 4) ⟨tP, rfl⟩) pa_nil))))) (pw_or1 (pt_not (pt_val (pe_callB (cr_all rfl) rfl T.all boot_all (pa_cons (pe_lc (own := [("kind", 6)]) (g := gName 6) (tt := tYes) rfl scInit.nd (pi_seqq (pv 2)) (blkOk_by (N := nInit) (sc := defScope sInit) (by decide +kernel)) (fun _ _ _ _ _ => (pg_name (i := 6) scInit.nd rfl (Or.inl rfl))) (fun _ _ _ _ _ => pts_nil) (fun _ _ _ _ _ => (pe_call GT (hr.mono (by decide)) rfl gT FT.kp bT .nil pass0 (pa_cons (pv 6) pa_nil)))) pa_nil)))))))
        (pss_one (ps_raise rfl (takes_of rfl rfl rfl rfl) (pmk_xk XF.g.t XF.g.at_ XF.g.ty GE (hr.mono (by decide)) bE rfl XF.hm (by decide) (pa_cons (pv 2) pa_nil))))
        pss_nil)
      (pss_cons (ps_if (pt_not (pt_val (pe_call GT (hr.mono (by decide)) rfl gT FT.kp bT .nil pass0 (pa_cons (pv 3) pa_nil))))
        (pss_one (ps_raise rfl (takes_of rfl rfl rfl rfl) (pmk_xk XF.g.t XF.g.at_ XF.g.ty GE (hr.mono (by decide)) bE rfl XF.hm (by decide) (pa_cons (pv 3) pa_nil))))
        pss_nil)
      (pss_cons (ps_if (pt_not (pt_val (pe_call GZ (hr.mono (by decide)) rfl gZ FZ.kp bZ .nil pass0 (pa_cons (pv 4) (pa_cons (pe_callB call_len rfl T.len boot_len (pa_cons (pv 2) pa_nil)) pa_nil)))))
        (pss_one (ps_raise rfl (takes_of rfl rfl rfl rfl) (pmk_xk XF.g.t XF.g.at_ XF.g.ty GE (hr.mono (by decide)) bE rfl XF.hm (by decide) (pa_cons (pv 4) pa_nil))))
        pss_nil)
      (pss_cons (ps_if (pt_not (pt_val (pe_call GC hr rfl gC FC.kp bC .nil pass0 (pa_cons (pv 5) (pa_cons (pv 4) pa_nil)))))
        (pss_one (ps_raise rfl (takes_of rfl rfl rfl rfl) (pmk_xk XF.g.t XF.g.at_ XF.g.ty GE (hr.mono (by decide)) bE rfl XF.hm (by decide) (pa_cons (pv 5) pa_nil))))
        pss_nil)
      (pss_cons (ps_asg (pe_tup (pa_cons (pv 1) (pa_cons (pe_callTy call_tupD rfl T.tup boot_tuple (pa_cons (pv 2) pa_nil)) (pa_cons (pv 3) pa_nil)))) (pg_tup rfl (pgs_cons (pg_fld (pv 0)) (pgs_cons (pg_fld (pv 0)) (pgs_cons (pg_fld (pv 0)) pgs_nil)))) (hw := no_swap3 rfl))
      (pss_one (ps_asg (pe_tup (pa_cons (pv 4) (pa_cons (pe_callTy call_tupD rfl T.tup boot_tuple (pa_cons (pv 5) pa_nil)) pa_nil))) (pg_tup rfl (pgs_cons (pg_fld (pv 0)) (pgs_cons (pg_fld (pv 0)) pgs_nil))) (hw := no_swap rfl))))))))), ?_⟩
    refine ⟨_, rfl, n, dn, rfl, ok.hn, ok.on, fun H1 e1 => ⟨_, rfl, ?_⟩⟩
    cases hkn : nameD dn with
    | false => exact iteT ⟨_, rfl, rfl, fun dE HE eE hE => hX n (by simp [badV, kindsD, hkn]) dE HE (e1.trans eE) hE⟩
    | true =>
    refine iteF ?_
    have ok1 := ok.ext e1
    refine ⟨_, rfl, p, dp, 4, rfl, ok1.hp, fun H2 e2 => ⟨_, rfl, ?_⟩⟩
    cases hkp : seqD 4 dp with
    | false => exact iteT ⟨_, rfl, rfl, fun dE HE eE hE => hX p (by simp [badV, kindsD, hkn, hkp]) dE HE ((e1.trans e2).trans eE) hE⟩
    | true =>
    refine iteF ?_
    have ok2 := ok1.ext e2
    obtain ⟨pa, pxs, rfl, hpa, hpall, hpl⟩ := seq_sq (K := K) ok2.hp hkp
    have hplen := DqAll.length hpall
    have hp0 := hpa
    rcases hp0 with hp0 | hp0
    case' inl =>
      refine ⟨_, rfl, pa, rfl, .inl ⟨⟨_, SqL.of hp0⟩, fun L hL => ?_⟩⟩
      have wJ := (walk_list (K := K) (a := pa) (xs := pxs)).mono (G' := fun H' => H' pa = H2 pa) (fun H' e => SqL.of (e.trans hp0)) fun _ _ _ _ _ _ y => y
    case' inr =>
      refine ⟨_, rfl, pa, rfl, .inr ⟨⟨_, SqT.of hp0⟩, fun L hL => ?_⟩⟩
      have wJ := (walk_tup (K := K) (a := pa) (xs := pxs)).mono (G' := fun H' => H' pa = H2 pa) (fun H' e => SqT.of (e.trans hp0)) fun _ _ _ _ _ _ y => y
    all_goals
      refine lc_map wJ hL (fun H' e => ex_or e hpa) (fun j => .bl (typeD ((itemsOf dp).getD j .none))) (by omega) (fun j H3 x H4 _ _ y => by rw [y.1]; exact Evl.Ex.refl _) ?_ ?_
      · rintro j x H3 H4 hj e3 _ ⟨rfl, hx⟩ Qt hQt
        obtain ⟨dj, hdj, hxj⟩ := hpall.get hx
        have egd : (itemsOf dp).getD j .none = dj := by rw [List.getD_eq_getElem?_getD, hdj]; rfl
        rw [egd] at hQt
        exact ⟨rfl, _, rfl, x, dj, rfl, hxj.ext e3, okAll_mem (okAll_items ok.op) dj (List.mem_of_getElem? hdj), hQt⟩
      intro H3 e3 hL3
      refine ⟨L, (List.range pxs.length).map fun j => typeD ((itemsOf dp).getD j .none), rfl, SqL.of (by rw [hL3, List.map_map]; rfl), ?_⟩
      rw [hplen, map_range_get (itemsOf dp) typeD _ (fun i e he => by rw [List.getD_eq_getElem?_getD, he]; rfl), List.all_map, show (id ∘ typeD) = typeD from rfl]
      have e13 := (e1.trans e2).trans e3
      cases hkt : (itemsOf dp).all typeD with
      | false => exact ⟨_, rfl, iteT ⟨_, rfl, rfl, fun dE HE eE hE => hX (.ref pa) (by simp [badV, kindsD, hkn, hkp, hkt]) dE HE (e13.trans eE) hE⟩⟩
      | true =>
      refine ⟨_, rfl, iteF ?_⟩
      have ok3 := ok2.ext e3
      refine ⟨_, rfl, r, dr, rfl, ok3.hr, ok.or, fun H4 e4 => ⟨_, rfl, ?_⟩⟩
      have e14 := e13.trans e4
      cases hkr : typeD dr with
      | false => exact iteT ⟨_, rfl, rfl, fun dE HE eE hE => hX r (by simp [badV, kindsD, hkn, hkp, hkt, hkr]) dE HE (e14.trans eE) hE⟩
      | true =>
      refine iteF ?_
      have ok4 := ok3.ext e4
      have hpa4 : H4 pa = some (.lst pxs) ∨ H4 pa = some (.tup pxs) := by rw [ex_or (e3.trans e4) hpa]; exact hpa
      refine ⟨_, rfl, _, rfl, _, _, rfl, len_of hpa4, z, dz, _, rfl, ok4.hz, ok.oz, fun H5 e5 => ⟨_, rfl, ?_⟩⟩
      rw [hplen]
      have e15 := e14.trans e5
      cases hkz : inR (1 + (itemsOf dp).length) 10 dz with
      | false => exact iteT ⟨_, rfl, rfl, fun dE HE eE hE => hX z (by simp [badV, kindsD, hkn, hkp, hkt, hkr, hkz]) dE HE (e15.trans eE) hE⟩
      | true =>
      refine iteF ?_
      have ok5 := ok4.ext e5
      obtain ⟨sz, rfl⟩ : ∃ sz, dz = .int sz := by
        cases dz with
        | int sz => exact ⟨_, rfl⟩
        | _ => cases hkz
      obtain rfl : z = .int sz := ok.hz.intI
      rcases ok5.hc with ⟨hcq, hco⟩ | ⟨ca, kvs, es, rfl, hct, rfl⟩
      case' inr =>
        exact ⟨_, rfl, _, rfl, .inr ⟨ca, kvs, sz, rfl, hct, fun H6 e6 => ⟨_, rfl, iteT ⟨_, rfl, rfl, fun dE HE eE hE => hX (.ref ca) (by simp [badV, kindsD, hkn, hkp, hkt, hkr, hkz, show codeZ (.int sz) (.dict es) = false from rfl]) dE HE ((e15.trans e6).trans eE) hE⟩⟩⟩⟩
      refine ⟨_, rfl, _, rfl, .inl ⟨c, dc, sz, rfl, hcq, hco, fun H6 e6 => ⟨_, rfl, ?_⟩⟩⟩
      have e06 := e15.trans e6
      cases hkcc : codeD sz dc with
      | false => exact iteT ⟨_, rfl, rfl, fun dE HE eE hE => hX c (by simp [badV, kindsD, hkn, hkp, hkt, hkr, hkz, show codeZ (.int sz) dc = false from hkcc]) dE HE (e06.trans eE) hE⟩
      | true =>
      refine iteF ?_
      have okw := ok.ext e06
      have ok6 : PartsOk H6 n (.ref pa) r (.int sz) c dn dp dr sz dc := ⟨okw.hn, okw.hp, okw.hr, rfl, hcq.ext e6, okw.on, okw.op, okw.or, hco, hkn, hkp, hkt, hkr, hkz, hkcc⟩
      have ha6 := e06 _ _ ha
      have hQ0 := hQ (by simp [badV, kindsD, hkn, hkp, hkt, hkr, hkz, show codeZ (.int sz) dc = true from hkcc])
      clear e1 e2 e3 e4 e5 e6 ok1 ok2 ok3 ok4 ok5 hpall hpa4 hL hL3 wJ hp0 hpa e13 e14 e15 okw
      have hkc : seqD 40 dc = true := by
        have := hkcc
        unfold codeD at this
        simp only [Bool.and_eq_true] at this
        exact this.1.1.1
      have hM := M
      refine ⟨_, rfl, _, rfl, _, dp, _, rfl, ok6.hp, hkp, fun H7 p' e7 hp7 => ⟨_, rfl, le_line (by simp), fun t1 ht1 => ?_⟩⟩
      have ok7 := ok6.ext e7
      have e8 := Evl.Ex.new (o := .tup [n, p', r]) ht1
      have ha8 := e8 _ _ (e7 _ _ ha6)
      have ok8 := ok7.ext e8
      have hp8 := hp7.ext e8
      have e08 := (e06.trans e7).trans e8
      refine ⟨t1, _, rfl, SqT.of upd_same, rfl, _, _, rfl, ?_⟩
      generalize (upd H7 t1 (.tup [n, p', r])) = H8 at ha8 ok8 hp8 e08
      refine ⟨_, rfl, a, _, dx, [], rfl, ha8, M.cl, M.n1, by decide, _, _, rfl, ?_⟩
      refine ⟨_, rfl, a, _, dx, [("own_name", n)], rfl, upd_same, M.cl, M.n2, by simp, _, _, rfl, ?_⟩
      refine ⟨_, rfl, a, _, dx, [("own_name", n), ("own_params", p')], rfl, upd_same, M.cl, M.n3, by simp, rfl, ?_⟩
      have k9 : ∀ b o, b ≠ a → H8 b = some o → (upd (upd (upd H8 a (.ins (He.ga K "Method") dx (putF "own_name" n []))) a (.ins (He.ga K "Method") dx (putF "own_params" p' [("own_name", n)]))) a (.ins (He.ga K "Method") dx (putF "own_result" r [("own_name", n), ("own_params", p')]))) b = some o := fun b o hb e => by
        rw [upd_ne hb, upd_ne hb, upd_ne hb]; exact e
      have ha9 := upd_same (H := upd (upd H8 a (.ins (He.ga K "Method") dx (putF "own_name" n []))) a (.ins (He.ga K "Method") dx (putF "own_params" p' [("own_name", n)]))) (a := a) (o := .ins (He.ga K "Method") dx (putF "own_result" r [("own_name", n), ("own_params", p')]))
      generalize (upd (upd (upd H8 a (.ins (He.ga K "Method") dx (putF "own_name" n []))) a (.ins (He.ga K "Method") dx (putF "own_params" p' [("own_name", n)]))) a (.ins (He.ga K "Method") dx (putF "own_result" r [("own_name", n), ("own_params", p')]))) = H9 at k9 ha9
      have hc9 : Dq H9 c dc := Dq.fr ha8 k9 ok8.hc
      have hp9 : Dq H9 p' (.tuple (itemsOf dp)) := Dq.fr ha8 k9 hp8
      refine ⟨_, rfl, _, rfl, _, dc, _, rfl, hc9, hkc, fun H10 c' e10 hc10 => ⟨le_line (by simp), fun t2 ht2 => ?_⟩⟩
      have e11 := Evl.Ex.new (o := .tup [.int sz, c']) ht2
      have ha11 := e11 _ _ (e10 _ _ ha9)
      have hp11 := (hp9.ext e10).ext e11
      have hc11 := hc10.ext e11
      have e911 := e10.trans e11
      refine ⟨t2, _, rfl, SqT.of upd_same, rfl, _, _, rfl, ?_⟩
      generalize (upd H10 t2 (.tup [.int sz, c'])) = H11 at ha11 hp11 hc11 e911
      refine ⟨_, rfl, a, _, dx, [("own_name", n), ("own_params", p'), ("own_result", r)], rfl, ha11, M.cl, M.n4, by simp, _, _, rfl, ?_⟩
      refine ⟨_, rfl, a, _, dx, [("own_name", n), ("own_params", p'), ("own_result", r), ("own_size", .int sz)], rfl, upd_same, M.cl, M.n5, by simp, rfl, ?_⟩
      have k12 : ∀ b o, b ≠ a → H11 b = some o → (upd (upd H11 a (.ins (He.ga K "Method") dx (putF "own_size" (.int sz) [("own_name", n), ("own_params", p'), ("own_result", r)]))) a (.ins (He.ga K "Method") dx (putF "own_code" c' [("own_name", n), ("own_params", p'), ("own_result", r), ("own_size", .int sz)]))) b = some o := fun b o hb e => by
        rw [upd_ne hb, upd_ne hb]; exact e
      refine hQ0 _ p' c' (fun b o hb e => k12 b o hb (e911 _ _ (k9 b o hb (e08 _ _ e)))) upd_same (Dq.fr ha11 k12 hp11) (Dq.fr ha11 k12 hc11)
end
end K03
set_option Elab.async false
set_option linter.all false
set_option maxRecDepth 100000
set_option maxHeartbeats 0
namespace K03
open PySem PySem.Spec PyProof.Rows L2 EX2
section
variable {H : Hp} {p : Addr} {l : List V}
mutual
theorem dq_rmL (hp : H p = some (.lst l)) : ∀ {x : V} {d : PyData}, Dq H x d → noL d = true → Dq (rm p H) x d
  | _, _, .non, _ => .non
  | _, _, .bl b, _ => .bl b
  | _, _, .int i, _ => .int i
  | _, _, .str x, _ => .str x
  | _, _, .lst q h, n => by cases n
  | _, _, .tup (a := a) q h, n => .tup (by rw [rm_ne (ne_of q hp (fun z => nomatch z))]; exact q) (dqAll_rmL hp h n)
  | _, _, .dk q h, n => by cases n
theorem dqAll_rmL (hp : H p = some (.lst l)) : ∀ {xs : List V} {ds : List PyData}, DqAll H xs ds → noLs ds = true → DqAll (rm p H) xs ds
  | _, _, .nil, _ => .nil
  | _, _, .cons h t, n => by
    simp only [noLs, Bool.and_eq_true] at n
    exact .cons (dq_rmL hp h n.1) (dqAll_rmL hp t n.2)
end
end
theorem PartsOk.w {H : Hp} {n p r z c : V} {dn dp dr dc : PyData} {sz : Int} (h : PartsOk H n p r z c dn dp dr sz dc) : PartsW H n p r z c dn dp dr (.int sz) dc ∧ badV n p r z c dn dp dr (.int sz) dc = none :=
  ⟨⟨h.hn, h.hp, h.hr, by rw [h.hz]; exact .int sz, .inl ⟨h.hc, h.oc⟩, h.on, h.op, h.or, rfl⟩, by simp [badV, kindsD, h.kn, h.kp, h.kt, h.kr, h.kz, show codeZ (.int sz) dc = true from h.kc]⟩
theorem spInit_X {C CI : Addr} : ∀ vs H Q E, spInit C vs H Q E → spInitX C CI vs H Q E := by
  rintro vs H Q E ⟨a, dx, n, p, r, z, c, dn, dp, dr, dc, sz, rfl, ha, ok, hQ⟩
  exact ⟨a, dx, n, p, r, z, c, dn, dp, dr, .int sz, dc, rfl, ha, ok.w.1, (fun x h => by rw [ok.w.2] at h; cases h), fun _ => hQ⟩
def nm3 : List Str := ["a", "b", "c"]
/-- what makes a drawer ready -/
inductive RdyP (m : Int) : PyData → Prop
  | new (r : Int) (c : Str) (r0 : 0 ≤ r) (r1 : r < m) (hc : c ∈ nm4) : RdyP m (.tuple [.str "new", .int r, .str c])
  | array (r : Int) (c : Str) (r0 : 0 ≤ r) (r1 : r < m) (hc : c ∈ nm4) : RdyP m (.tuple [.str "array", .int r, .str c, .int 2])
  | null (r : Int) (r0 : 0 ≤ r) (r1 : r < m) : RdyP m (.tuple [.str "null", .int r])
theorem RdyP.ins {m n : Int} {d : PyData} (h : RdyP m d) : InsP m n d := by
  cases h with
  | new r c r0 r1 hc => exact .new r c r0 r1 hc
  | array r c r0 r1 hc => exact .array r c 2 r0 r1 hc (by decide) (by decide)
  | null r r0 r1 => exact .null r r0 r1
def spReady : Sp := fun vs H Q _ => ∃ (p : Addr) (m g : Int), vs = [.ref p, .int m, .int g] ∧ Sc p H ∧ 0 ≤ g ∧ g ≤ m ∧ m ≤ 10 ∧
  ∀ (L : Addr) (xs : List V) (ds : List PyData) (H' : Hp), Lx p H H' → H L = none → H' L = some (.lst xs) → DzAll p H' xs ds → ds.length = (m - g).toNat → (∀ d ∈ ds, RdyP m d) → Q (.ref L) H'
section
variable {P : Program} {w : World} {K : PySem.W.Frag} {mg : Str → Option Value} {base : Heap} {f : Addr} {fd : FuncData}
abbrev nready : List Str := ["_law_source_here", "_law_size", "_law_given", "_law_found", "_law_drawer", "_law_name"]
theorem scready : FnScope nready ["_law_source_here", "_law_size", "_law_given"] (defScope sready) := ⟨rfl, rfl, rfl, by decide +kernel, rfl, by decide +kernel, by decide +kernel⟩
theorem ok_ready (F : FnP K "_law_ready" sready f fd) (D : Defs w K mg) : FnOk P w K mg base CX0 3 f fd ["_law_source_here", "_law_size", "_law_given"] spReady := by
  have T := D.t
  obtain ⟨fD, fdD, gD, FD⟩ := D.draw
  have GD : FnOk P w K mg base CX0 1 fD fdD ["_law_source_here", "_law_amount"] spDr := okL_draw FD D
  have bD : Binds K fdD ["_law_source_here", "_law_amount"] [] := FD.bindsN fun _ _ _ _ _ _ us hl => match us, hl with | [_, _], _ => rfl
  obtain ⟨fP, fdP, gP, FP⟩ := D.pick
  have GP : FnOk P w K mg base CX0 2 fP fdP ["_law_source_here", "_law_items"] spPick := ok_pick FP D
  have bP : Binds K fdP ["_law_source_here", "_law_items"] [] := FP.bindsN fun _ _ _ _ _ _ us hl => match us, hl with | [_, _], _ => rfl
  refine F.ok scready (fun vs H Q E h => ?_) (fun cdv A outer s H vs Q E hr h => ?_)
  · obtain ⟨p, m, g, rfl, _⟩ := h
    rfl
  · obtain ⟨p, m, g, rfl, hs, g0, gm, m1, hQ⟩ := h
    refine ⟨_, PSs.nox (pss_cons (ps_set (i := 3) scready.nd rfl (Or.inl rfl) (pe_lst pa_nil))
      (pss_cons (ps_for PassesOwn.never rfl (pi_range2 rfl T.rng (pa_cons (pv 2) (pa_cons (pv 1) pa_nil))) (pg_name (i := 4) scready.nd rfl (Or.inl rfl))
        (pss_cons (ps_set (i := 5) scready.nd rfl (Or.inl rfl) (pe_call GP hr rfl gP FP.kp bP .nil pass0 (pa_cons (pv 0) (pa_cons (pe_lst (pa_cons pe_str (pa_cons pe_str (pa_cons pe_str pa_nil)))) pa_nil))))
        (pss_one (ps_expr (pe_bm PySem.F.plainAttrs_list PySem.F.slot_list_append PySem.F.type_list_append mt_append (pv 3) (pa_cons (pe_ix ix_list (pe_lst (pa_cons (pe_tup (pa_cons pe_str (pa_cons (pv 4) (pa_cons (pv 5) pa_nil)))) (pa_cons (pe_tup (pa_cons pe_str (pa_cons (pv 4) (pa_cons (pv 5) (pa_cons pe_int pa_nil))))) (pa_cons (pe_tup (pa_cons pe_str (pa_cons (pv 4) pa_nil))) pa_nil)))) (pe_call GD (hr.mono (by decide)) rfl gD FD.kp bD .nil pass0 (pa_cons (pv 0) (pa_cons pe_int pa_nil))) (fun _ _ => rfl)) pa_nil))))))
      (pss_one (ps_ret (pv 3))))), ?_⟩
    refine ⟨Nat.zero_le _, fun L hL => ?_⟩
    have npL := hs.ne hL
    have eL := Evl.Ex.new (o := .lst []) hL
    refine ⟨_, rfl, _, rfl, g, m, rfl, ⟨by omega, by omega, by omega, by omega⟩, ?_⟩
    refine for_it walk_range (fun j σ H1 => Lx p H H1 ∧ (∃ xs ds, H1 L = some (.lst xs) ∧ DzAll p H1 xs ds ∧ ds.length = j ∧ (∀ d ∈ ds, RdyP m d)) ∧ ∃ v4 v5, σ = [some (.ref p), some (.int m), some (.int g), some (.ref L), v4, v5])
      ⟨.of hs eL, ⟨[], [], upd_same, .nil, rfl, fun d h => nomatch h⟩, none, none, rfl⟩ (fun _ _ _ _ _ => trivial) ?_ ?_
    · rintro j x σ H1 H2 hj ⟨l1, ⟨xs, ds, hL1, hall, hlen, hrd⟩, v4, v5, rfl⟩ ⟨rfl, rfl⟩
      have hr0 : 0 ≤ g + (j : Int) := by omega
      have hr1 : g + (j : Int) < m := by omega
      refine ⟨_, rfl, le_line (by simp), fun b1 g1 => ⟨p, b1, _, rfl, l1.sc.ex (Evl.Ex.new g1), l1.sc.ne g1, upd_same, by simp, by simp, fun x H3 hx lx => ?_⟩⟩
      have lx3 : Lx p H2 H3 := (Lx.of l1.sc (Evl.Ex.new g1)).trans lx
      obtain ⟨c, hc, rfl⟩ : ∃ c, c ∈ nm4 ∧ x = .str c := by
        simp only [List.mem_cons, List.not_mem_nil, or_false] at hx
        rcases hx with rfl | rfl | rfl <;> exact ⟨_, by decide +kernel, rfl⟩
      refine ⟨_, rfl, .inl ⟨rfl, _, SqL.of (lx3.at hL1 npL)⟩, ?_⟩
      have z0 : DzAll p H3 [] [] := .nil
      refine ⟨_, rfl, _, rfl, le_line (by simp), fun a1 h1 => ?_⟩
      have lA := lx3.then (Evl.Ex.new (o := .tup [.str "new", .int (g + (j : Int)), .str c]) h1)
      have z1 : DzAll p (upd H3 a1 (.tup [.str "new", .int (g + (j : Int)), .str c])) [.ref a1] [.tuple [.str "new", .int (g + (j : Int)), .str c]] := .cons (Dz.tupN lx3.sc h1 (.cons (.str _) (.cons (.int _) (.cons (.str _) .nil)))) .nil
      refine ⟨_, rfl, _, rfl, le_line (by simp), fun a2 h2 => ?_⟩
      have f2 := Evl.Ex.new (o := .tup [.str "array", .int (g + (j : Int)), .str c, .int 2]) h2
      have lB := lA.then f2
      have z2 := DqAll.app (z1.lx (.of lA.sc f2)) (.cons (Dz.tupN lA.sc h2 (.cons (.str "array") (.cons (.int (g + (j : Int))) (.cons (.str c) (.cons (.int 2) .nil))))) .nil)
      refine ⟨_, rfl, le_line (by simp), fun a3 h3 => ?_⟩
      have f3 := Evl.Ex.new (o := .tup [.str "null", .int (g + (j : Int))]) h3
      have lC := lB.then f3
      have z3 := DqAll.app (DzAll.lx z2 (.of lB.sc f3)) (.cons (Dz.tupN lB.sc h3 (.cons (.str "null") (.cons (.int (g + (j : Int))) .nil))) .nil)
      refine ⟨le_line (by simp), fun b2 g2 => ?_⟩
      have f4 := Evl.Ex.new (o := .lst [.ref a1, .ref a2, .ref a3]) g2
      have lD := lC.then f4
      have z4 := DzAll.lx z3 (.of lC.sc f4)
      refine ⟨_, rfl, p, _, rfl, lD.sc, by decide, by decide, fun k H5 k0 k1 l5 => ?_⟩
      have hb2 := l5.at (upd_same (a := b2) (o := .lst [.ref a1, .ref a2, .ref a3])) (lC.sc.ne g2)
      have z5 := DzAll.lx z4 l5
      obtain ⟨i, rfl⟩ := Int.eq_ofNat_of_zero_le k0
      have hi : i < 3 := by omega
      obtain ⟨di, hdi, hxi⟩ := z5.get (List.getElem?_eq_getElem (l := [V.ref a1, .ref a2, .ref a3]) (i := i) hi)
      have hdr : RdyP m di ∧ noL di = true := by
        have hm := List.mem_of_getElem? hdi
        have hm : di ∈ [PyData.tuple [.str "new", .int (g + (j : Int)), .str c], .tuple [.str "array", .int (g + (j : Int)), .str c, .int 2], .tuple [.str "null", .int (g + (j : Int))]] := hm
        simp only [List.mem_cons, List.not_mem_nil, or_false] at hm
        rcases hm with rfl | rfl | rfl
        · exact ⟨.new _ c hr0 hr1 hc, rfl⟩
        · exact ⟨.array _ c hr0 hr1 hc, rfl⟩
        · exact ⟨.null _ hr0 hr1, rfl⟩
      have l25 : Lx p H2 H5 := lD.trans l5
      have hL5 := l25.at hL1 npL
      have hno : noLs ds = true := noLs_of fun d hd => by cases hrd d hd <;> rfl
      refine ⟨b2, _, _, _, rfl, rfl, SqL.of hb2, atI_nat (List.getElem?_eq_getElem hi), L, xs, _, rfl, rfl, hL5, ?_, ?_⟩
      · rw [DqAll.length hall, hlen]
        exact Nat.lt_of_lt_of_le (show j < 1000 by omega) (le_line (Nat.le_refl _))
      · refine ⟨(l1.trans l25).mut npL hL, ⟨xs ++ [_], ds ++ [di], upd_same, DqAll.app ((hall.lx l25).mutD hL5 npL hno) (.cons (Dz.mutD hL5 npL hxi hdr.2) .nil), by rw [List.length_append, hlen]; rfl, fun d hd => ?_⟩, _, _, rfl⟩
        rcases List.mem_append.mp hd with q | q
        · exact hrd d q
        · rw [List.mem_singleton] at q; subst q; exact hdr.1
    · rintro σ H1 ⟨l1, ⟨xs, ds, hL1, hall, hlen, hrd⟩, v4, v5, rfl⟩
      exact ⟨_, rfl, hQ L xs ds H1 l1 hL hL1 hall hlen hrd⟩
theorem DqAll.setA {H : Hp} {xs : List V} {ds : List PyData} (h : DqAll H xs ds) {x : V} {d : PyData} (hx : Dq H x d) : ∀ (i : Nat), DqAll H (xs.set i x) (ds.set i d) := by
  induction xs generalizing ds with
  | nil => cases h; intro i; exact .nil
  | cons y ys ih =>
    cases h with
    | cons h t =>
      intro i
      cases i with
      | zero => exact .cons hx t
      | succ i => exact .cons h (ih t i)
/-- a method that is made -/
structure MethP (ps : List PyData) (r : Str) (sz : Int) (cd : List PyData) : Prop where
  pl : ps.length ≤ 2
  pt : ∀ k ∈ ps, ∃ z ∈ tyS, k = .str z
  rt : r ∈ tyS
  s0 : 1 + (ps.length : Int) ≤ sz
  s1 : sz ≤ 6
  c0 : 0 < cd.length
  c1 : cd.length ≤ 15
  ci : ∀ d ∈ cd, InsP sz cd.length d
theorem MethP.parts {H : Hp} {p c : V} {ps cd : List PyData} {r : Str} {sz : Int} {dp dc : PyData} (h : MethP ps r sz cd) (hp : Dq H p dp) (hc : Dq H c dc) (ip : itemsOf dp = ps) (ic : itemsOf dc = cd) (kp : seqD 4 dp = true) (kc : seqD 40 dc = true) (op : okD dp = true) (oc : okD dc = true) (n : Str) (hn : isNm n = true) (hn2 : n.length ≤ 10 ∧ PyData.strOk n = true) :
    PartsOk H (.str n) p (.str r) (.int sz) c (.str n) dp (.str r) sz dc where
  hn := .str n
  hp := hp
  hr := .str r
  hz := rfl
  hc := hc
  on := ok_str hn2
  op := op
  or := ok_str ⟨by have := (tyS_ok r h.rt).2.1; omega, (tyS_ok r h.rt).2.2⟩
  oc := oc
  kn := hn
  kp := kp
  kt := by rw [ip, List.all_eq_true]; intro k hk; obtain ⟨z, hz, rfl⟩ := h.pt k hk; exact (tyS_ok z hz).1
  kr := (tyS_ok r h.rt).1
  kz := by
    rw [ip, inR_int]
    have h0 := h.s0
    have h1 := h.s1
    simp
    omega
  kc := by
    have c0 := h.c0
    have c1 := h.c1
    unfold codeD
    rw [kc, ic, decide_eq_true (by omega), Bool.true_and, Bool.true_and, Bool.and_eq_true]
    refine ⟨List.all_eq_true.mpr fun d hd => (h.ci d hd).ins (by have := h.s1; omega) (by omega), List.all_eq_true.mpr fun d hd => ?_⟩
    unfold codeOk
    rw [Bool.and_eq_true]
    refine ⟨List.all_eq_true.mpr fun e he => ?_, List.all_eq_true.mpr fun e he => ?_⟩
    · obtain ⟨i, rfl, i0, i1⟩ := (h.ci d hd).draw e he
      exact decide_eq_true i1
    · obtain ⟨i, rfl, i0, i1⟩ := (h.ci d hd).tgt e he
      exact decide_eq_true i1
def spMethod (C : Addr) : Sp := fun vs H Q _ => ∃ (p : Addr) (b : Bool), vs = [.ref p, .bl b] ∧ Sc p H ∧
  ∀ (m : V) (ps : List PyData) (r : Str) (sz : Int) (cd : List PyData) (H' : Hp), Lx p H H' → MethAt C (rm p H') m (.str "m") ps (.str r) (.int sz) cd → MethP ps r sz cd → Q m H'
abbrev nmethod : List Str := ["_law_source_here", "_law_is_ready", "_law_params", "_law_size", "_law_first", "_law_length", "_law_code", "_law_part"]
theorem scmethod : FnScope nmethod ["_law_source_here", "_law_is_ready"] (defScope smethod) := ⟨rfl, rfl, rfl, by decide +kernel, rfl, by decide +kernel, by decide +kernel⟩
theorem ok_method (F : FnP K "_law_method" smethod f fd) (D : Defs w K mg) (M : MethF K mg) (XF : ExcF P w K mg base) : FnOk P w K mg base CX0 8 f fd ["_law_source_here", "_law_is_ready"] (spMethod (He.ga K "Method")) := by
  have T := D.t
  obtain ⟨fD, fdD, gD, FD⟩ := D.draw
  have GD : FnOk P w K mg base CX0 1 fD fdD ["_law_source_here", "_law_amount"] spDr := okL_draw FD D
  have bD : Binds K fdD ["_law_source_here", "_law_amount"] [] := FD.bindsN fun _ _ _ _ _ _ us hl => match us, hl with | [_, _], _ => rfl
  obtain ⟨fP, fdP, gP, FP⟩ := D.pick
  have GP : FnOk P w K mg base CX0 2 fP fdP ["_law_source_here", "_law_items"] spPick := ok_pick FP D
  have bP : Binds K fdP ["_law_source_here", "_law_items"] [] := FP.bindsN fun _ _ _ _ _ _ us hl => match us, hl with | [_, _], _ => rfl
  obtain ⟨fT, fdT, gT, FT⟩ := D.typeL
  have GT : FnOk P w K mg base CX0 3 fT fdT ["_law_source_here"] spTy := ok_typeL FT D
  have bT : Binds K fdT ["_law_source_here"] [] := FT.bindsN fun _ _ _ _ _ _ us hl => match us, hl with | [_], _ => rfl
  obtain ⟨fR, fdR, gR, FR⟩ := D.ready
  have GR : FnOk P w K mg base CX0 3 fR fdR ["_law_source_here", "_law_size", "_law_given"] spReady := ok_ready FR D
  have bR : Binds K fdR ["_law_source_here", "_law_size", "_law_given"] [] := FR.bindsN fun _ _ _ _ _ _ us hl => match us, hl with | [_, _, _], _ => rfl
  obtain ⟨fM, fdM, gM, FM⟩ := D.made
  have GM : FnOk P w K mg base CX0 5 fM fdM ["_law_source_here", "_law_size", "_law_length"] spMade := ok_made FM D
  have bM : Binds K fdM ["_law_source_here", "_law_size", "_law_length"] [] := FM.bindsN fun _ _ _ _ _ _ us hl => match us, hl with | [_, _, _], _ => rfl
  obtain ⟨fdI, FI⟩ := M.init
  have GI : FnOk P w K mg base (L2.CX P w) 6 _ fdI ["self", "name", "params", "result", "size", "code"] (spInit (He.ga K "Method")) := (ok_initX FI D M XF).imp spInit_X
  have bI : Binds K fdI ["self", "name", "params", "result", "size", "code"] [] := FI.bindsN fun _ _ _ _ _ _ us hl => match us, hl with | [_, _, _, _, _, _], _ => rfl
  refine F.ok scmethod (fun vs H Q E h => ?_) (fun cdv A outer s H vs Q E hr h => ?_)
  · obtain ⟨p, b, rfl, _⟩ := h
    rfl
  · obtain ⟨p, b, rfl, hs, hQ⟩ := h
    refine ⟨_, PSs.nox (pss_cons (ps_set (i := 2) scmethod.nd rfl (Or.inl rfl) (pe_callTy call_tuple_of rfl T.tup boot_tuple (pa_cons (pe_lc (own := [("_law_part", 7)]) (g := gName 7) (tt := tYes) rfl scmethod.nd (pi_range1 rfl T.rng (pa_cons (pe_call GD (hr.mono (by decide)) rfl gD FD.kp bD .nil pass0 (pa_cons (pv 0) (pa_cons pe_int pa_nil))) pa_nil)) (blkOk_by (N := nmethod) (sc := defScope smethod) (by decide +kernel)) (fun _ _ _ _ _ => (pg_name (i := 7) scmethod.nd rfl (Or.inl rfl))) (fun _ _ _ _ _ => pts_nil) (fun _ _ _ _ _ => (pe_call GT (hr.mono (by decide)) rfl gT FT.kp bT .nil pass0 (pa_cons (pv 0) pa_nil)))) pa_nil)))
      (pss_cons (ps_set (i := 3) scmethod.nd rfl (Or.inr rfl) (pe_op op_add (pe_op op_add pe_int (pe_callB call_len rfl T.len boot_len (pa_cons (pv 2) pa_nil))) (pe_call GD (hr.mono (by decide)) rfl gD FD.kp bD .nil pass0 (pa_cons (pv 0) (pa_cons pe_int pa_nil)))))
      (Evl.pss_cut (ps_set (i := 4) scmethod.nd rfl (Or.inl rfl) (pe_ifExp (pt_val (pv 1)) (pe_call GR (hr.mono (by decide)) rfl gR FR.kp bR .nil pass0 (pa_cons (pv 0) (pa_cons (pv 3) (pa_cons (pe_op op_add pe_int (pe_callB call_len rfl T.len boot_len (pa_cons (pv 2) pa_nil))) pa_nil)))) (pe_lst pa_nil)))
      (Evl.pss_cut (ps_set (i := 5) scmethod.nd rfl (Or.inr rfl) (pe_op op_add (pe_op op_add (pe_callB call_len rfl T.len boot_len (pa_cons (pv 4) pa_nil)) pe_int) (pe_call GD (hr.mono (by decide)) rfl gD FD.kp bD .nil pass0 (pa_cons (pv 0) (pa_cons pe_int pa_nil)))))
      (pss_cons (ps_set (i := 6) scmethod.nd rfl (Or.inl rfl) (pe_op op_cat (pv 4) (pe_lc (own := [("_law_part", 7)]) (g := gName 7) (tt := tYes) rfl scmethod.nd (pi_range1 rfl T.rng (pa_cons (pe_op op_sub (pv 5) (pe_callB call_len rfl T.len boot_len (pa_cons (pv 4) pa_nil))) pa_nil)) (blkOk_by (N := nmethod) (sc := defScope smethod) (by decide +kernel)) (fun _ _ _ _ _ => (pg_name (i := 7) scmethod.nd rfl (Or.inl rfl))) (fun _ _ _ _ _ => pts_nil) (fun _ _ _ _ _ => (pe_call GM (hr.mono (by decide)) rfl gM FM.kp bM .nil pass0 (pa_cons (pv 0) (pa_cons (pv 3) (pa_cons (pv 5) pa_nil))))))))
      (Evl.pss_cut (ps_if (PW.pt (pw_and (pt_val (pv 1)) (pw_and1 (pt_cmpR op_gt (pe_call GD (hr.mono (by decide)) rfl gD FD.kp bD .nil pass0 (pa_cons (pv 0) (pa_cons pe_int pa_nil))) pe_int (nomark _)))))
        (pss_one (ps_asg (pe_call GP (hr.mono (by decide)) rfl gP FP.kp bP .nil pass0 (pa_cons (pv 0) (pa_cons (pe_lst (pa_cons (pe_tup (pa_cons pe_str (pa_cons (pe_call GD (hr.mono (by decide)) rfl gD FD.kp bD .nil pass0 (pa_cons (pv 0) (pa_cons (pv 3) pa_nil))) pa_nil))) (pa_cons (pe_tup (pa_cons pe_str (pa_cons (pe_call GD (hr.mono (by decide)) rfl gD FD.kp bD .nil pass0 (pa_cons (pv 0) (pa_cons (pv 5) pa_nil))) pa_nil))) pa_nil))) pa_nil))) (pg_sub (pv 6) (pe_un un_neg pe_int) set_list)))
        pss_nil)
      (pss_one (ps_ret (pe_make M.mkr GI hr rfl M.hm bI .nil passL (pa_cons pe_str (pa_cons (pv 2) (pa_cons (pe_call GT (hr.mono (by decide)) rfl gT FT.kp bT .nil pass0 (pa_cons (pv 0) pa_nil)) (pa_cons (pv 3) (pa_cons (pv 6) pa_nil)))))))))))))), ?_⟩
    -- the parameters
    refine ⟨_, rfl, p, _, rfl, hs, by decide, by decide, fun k H1 k0 k1 lx1 => ?_⟩
    refine ⟨_, rfl, by omega, by omega, fun L1 hL1 => ?_⟩
    refine lc_lx walk_range lx1.sc hL1 (fun _ _ => trivial) (fun _ d => ∃ z ∈ tyS, d = .str z) (by omega) (fun j H2 x H3 y => y.1) ?_ ?_
    · rintro j x H2 hj lx2 _ Qt hQt
      exact ⟨rfl, _, rfl, p, rfl, lx2.sc, fun z H3 hz lx3 => hQt _ (.str z) H3 lx3 (.str z) rfl ⟨z, hz, rfl⟩⟩
    intro H2 xs1 ps lx2 hL1s hps hpl _ hpR
    refine ⟨L1, xs1, rfl, .inl ⟨SqL.of hL1s, fun a1 ha1 => ?_⟩⟩
    have e3 := Evl.Ex.new (o := .tup xs1) ha1
    have lxA := (lx1.trans lx2).then e3
    have hpt : ∀ k ∈ ps, ∃ z ∈ tyS, k = .str z := mem_of_get (fun i d h => hpR i d h)
    have hpl2 : ps.length ≤ 2 := by omega
    have hxl : xs1.length = ps.length := DqAll.length hps
    have dp : Dz p (upd H2 a1 (.tup xs1)) (.ref a1) (.tuple ps) := Dz.tupN lx2.sc ha1 hps
    have hpA : (upd H2 a1 (.tup xs1)) a1 = some (.tup xs1) := upd_same
    have npA := lx2.sc.ne ha1
    generalize (upd H2 a1 (.tup xs1)) = HA at lxA dp hpA
    clear hL1s hps hpl hpR
    -- the size
    refine ⟨_, rfl, _, _, rfl, .inr ⟨_, SqT.of hpA, rfl⟩, _, _, rfl, rfl, _, rfl, p, _, rfl, lxA.sc, by decide, by decide, fun s' HB s0 s1 lxb => ?_⟩
    have lxB := lxA.trans lxb
    have dpB := dp.lx lxb
    have hpB := lxb.at hpA npA
    have hsz0 : 1 + (ps.length : Int) ≤ 1 + (xs1.length : Int) + s' := by omega
    have hsz1 : 1 + (xs1.length : Int) + s' ≤ 6 := by omega
    refine ⟨_, _, rfl, rfl, ?_⟩
    -- the first instructions
    have hm10 : 1 + (xs1.length : Int) + s' ≤ 10 := by omega
    refine ⟨fun σ' H' => ∃ (M2 : Addr) (xs2 : List V) (ds2 : List PyData), σ' = [some (.ref p), some (.bl b), some (.ref a1), some (.int (1 + (xs1.length : Int) + s')), some (.ref M2), none, none, none] ∧ Lx p H H' ∧ H' M2 = some (.lst xs2) ∧ M2 ≠ p ∧ DzAll p H' xs2 ds2 ∧ ds2.length ≤ 5 ∧ (∀ d ∈ ds2, RdyP (1 + (xs1.length : Int) + s') d) ∧ Dz p H' (.ref a1) (.tuple ps), ?_, ?_⟩
    · refine ⟨_, rfl, _, rfl, ?_⟩
      cases b with
      | true =>
        refine iteT ⟨_, rfl, _, rfl, _, rfl, _, _, rfl, .inr ⟨_, SqT.of hpB, rfl⟩, _, _, rfl, rfl, p, _, _, rfl, lxB.sc, by omega, by omega, hm10, fun M2 xs2 ds2 HC lxc hL2 hL2s hds2 hdl hrd => ?_⟩
        exact ⟨M2, xs2, ds2, rfl, lxB.trans lxc, hL2s, lxB.sc.ne hL2, hds2, by omega, hrd, dpB.lx lxc⟩
      | false =>
        refine iteF ⟨Nat.zero_le _, fun M2 hL2 => ?_⟩
        exact ⟨M2, [], [], rfl, lxB.then (Evl.Ex.new hL2), upd_same, lxB.sc.ne hL2, .nil, by simp, fun d hd => (nomatch hd), dpB.lx (.of lxB.sc (Evl.Ex.new hL2))⟩
    rintro σ' HC ⟨M2, xs2, ds2, rfl, lxC, hL2, np2, hds2, hdl, hrd, dpC⟩
    generalize 1 + (xs1.length : Int) + s' = sz at hsz0 hsz1 hm10 hrd
    have hx2 : xs2.length = ds2.length := DqAll.length hds2
    -- the length
    refine ⟨fun σ' H' => ∃ N : Int, σ' = [some (.ref p), some (.bl b), some (.ref a1), some (.int sz), some (.ref M2), some (.int N), none, none] ∧ (xs2.length : Int) + 1 ≤ N ∧ N ≤ (xs2.length : Int) + 9 ∧ Lx p HC H', ?_, ?_⟩
    · refine ⟨_, rfl, _, _, rfl, .inl ⟨_, SqL.of hL2, rfl⟩, _, _, rfl, rfl, _, rfl, p, _, rfl, lxC.sc, by decide, by decide, fun l' HD l0 l1 lxd => ?_⟩
      exact ⟨_, _, rfl, rfl, _, rfl, by omega, by omega, lxd⟩
    rintro σ' HD ⟨N, rfl, hNa, hNb, lxd⟩
    have lxD := lxC.trans lxd
    have hL2D := lxd.at hL2 np2
    have hdsD := DzAll.lx hds2 lxd
    have dpD := dpC.lx lxd
    have hN0 : (ds2.length : Int) + 1 ≤ N := by omega
    have hN1 : N ≤ 14 := by omega
    -- the code
    refine ⟨_, rfl, _, rfl, _, rfl, _, _, rfl, .inl ⟨_, SqL.of hL2D, rfl⟩, _, _, rfl, rfl, _, rfl, by omega, by omega, fun L3 hL3 => ?_⟩
    refine lc_lx walk_range lxD.sc hL3 (fun _ _ => trivial) (fun _ d => InsP sz N d) (by omega) (fun j H2 x H3 y => y.1) ?_ ?_
    · rintro j x HE hj lxe _ Qt hQt
      exact ⟨rfl, _, rfl, _, rfl, _, rfl, p, sz, N, rfl, lxe.sc, by omega, hm10, by omega, by omega, fun y d H5 lx5 hy hin => hQt y d H5 lx5 hy (hin.ok).2 hin⟩
    intro HE xs3 ds3 lxe hL3s hds3 hdl3 hno3 hR3
    have lxE := lxD.trans lxe
    have hL2E := lxe.at hL2D np2
    refine ⟨M2, L3, _, _, rfl, rfl, hL2E, hL3s, le_line (by rw [hx2, DqAll.length hds3]; omega), fun M4 hL4 => ?_⟩
    have e4 := Evl.Ex.new (o := .lst (xs2 ++ xs3)) hL4
    have lxF := lxE.then e4
    have np4 := lxE.sc.ne hL4
    have hM4 : H M4 = none := by
      have := lxE.ex
      cases hz : H M4 with
      | none => rfl
      | some o => have := lxE.at hz np4; rw [this] at hL4; cases hL4
    have hcd : DzAll p (upd HE M4 (.lst (xs2 ++ xs3))) (xs2 ++ xs3) (ds2 ++ ds3) := DzAll.lx (DqAll.app (DzAll.lx hdsD lxe) hds3) (.of lxE.sc e4)
    have hci : ∀ d ∈ ds2 ++ ds3, InsP sz N d := fun d hd => (List.mem_append.mp hd).elim (fun q => (hrd d q).ins) fun q => mem_of_get (fun i d h => hR3 i d h) d q
    have hcl : ((ds2 ++ ds3).length : Int) = N := by rw [List.length_append]; omega
    have hL4s : (upd HE M4 (.lst (xs2 ++ xs3))) M4 = some (.lst (xs2 ++ xs3)) := upd_same
    have dpF := (dpD.lx lxe).lx (.of lxE.sc e4)
    generalize (upd HE M4 (.lst (xs2 ++ xs3))) = HF at lxF hcd hL4s dpF
    generalize xs2 ++ xs3 = xs4 at hcd hL4s
    generalize ds2 ++ ds3 = ds4 at hcd hci hcl
    clear hL3s hds3 hdl3 hno3 hR3 hL2E hL2D hdsD hds2 hdl hrd hL2 lxe lxd
    -- the last one
    refine ⟨fun σ' H' => ∃ (xs5 : List V) (ds5 : List PyData), σ' = [some (.ref p), some (.bl b), some (.ref a1), some (.int sz), some (.ref M2), some (.int N), some (.ref M4), none] ∧ Lx p H H' ∧ H' M4 = some (.lst xs5) ∧ DzAll p H' xs5 ds5 ∧ (ds5.length : Int) = N ∧ (∀ d ∈ ds5, InsP sz N d) ∧ Dz p H' (.ref a1) (.tuple ps), ?_, ?_⟩
    · refine ⟨_, rfl, _, rfl, ?_⟩
      have stay : _ := fun (HG : Hp) (l : Lx p HF HG) => (⟨xs4, ds4, rfl, lxF.trans l, l.at hL4s np4, DzAll.lx hcd l, hcl, hci, dpF.lx l⟩ : ∃ (xs5 : List V) (ds5 : List PyData), ([some (.ref p), some (.bl b), some (.ref a1), some (.int sz), some (.ref M2), some (.int N), some (.ref M4), none] : L2.St) = [some (.ref p), some (.bl b), some (.ref a1), some (.int sz), some (.ref M2), some (.int N), some (.ref M4), none] ∧ Lx p H HG ∧ HG M4 = some (.lst xs5) ∧ DzAll p HG xs5 ds5 ∧ (ds5.length : Int) = N ∧ (∀ d ∈ ds5, InsP sz N d) ∧ Dz p HG (.ref a1) (.tuple ps))
      cases b with
      | false => exact iteF (stay HF (.refl lxF.sc))
      | true =>
        refine iteT ⟨_, rfl, p, _, rfl, lxF.sc, by decide, by decide, fun q HG q0 q1 lxg => ⟨_, _, rfl, rfl, _, rfl, ?_⟩⟩
        refine ite2 (fun _ => ?_) (fun _ => stay HG lxg)
        have lxG := lxF.trans lxg
        refine ⟨_, rfl, _, rfl, _, rfl, p, sz, rfl, lxG.sc, by omega, by omega, fun v1 H1 v10 v11 lx1 => ⟨le_line (by simp), fun t1 ht1 => ?_⟩⟩
        have f1 := Evl.Ex.new (o := .tup [.str "return", .int v1]) ht1
        have lA : Lx p HG (upd H1 t1 (.tup [.str "return", .int v1])) := lx1.then f1
        have z1 : DzAll p (upd H1 t1 (.tup [.str "return", .int v1])) [.ref t1] [.tuple [.str "return", .int v1]] := .cons (Dz.tupN lx1.sc ht1 (.cons (.str _) (.cons (.int _) .nil))) .nil
        refine ⟨_, rfl, _, rfl, p, N, rfl, lA.sc, by omega, by omega, fun v2 H3 v20 v21 lx3 => ⟨le_line (by simp), fun t2 ht2 => ⟨le_line (by simp), fun b1 hb1 => ?_⟩⟩⟩
        have f3 := Evl.Ex.new (o := .tup [.str "jump", .int v2]) ht2
        have lB := (lA.trans lx3).then f3
        have z2 := DqAll.app (DzAll.lx (DzAll.lx z1 lx3) (.of lx3.sc f3)) (.cons (Dz.tupN lx3.sc ht2 (.cons (.str "jump") (.cons (.int v2) .nil))) .nil)
        have f4 := Evl.Ex.new (o := .lst [.ref t1, .ref t2]) hb1
        have lC := lB.then f4
        have z3 := DzAll.lx z2 (.of lB.sc f4)
        refine ⟨p, b1, _, rfl, lC.sc, lB.sc.ne hb1, upd_same, by simp, by simp, fun x H5 hx lx5 => ?_⟩
        have lD := lC.trans lx5
        have z4 := DzAll.lx z3 lx5
        obtain ⟨i, hi⟩ := List.mem_iff_getElem?.mp hx
        obtain ⟨di, hdi, hxi⟩ := z4.get hi
        have hin : InsP sz N di := by
          have hm : di ∈ [PyData.tuple [.str "return", .int v1], .tuple [.str "jump", .int v2]] := List.mem_of_getElem? hdi
          simp only [List.mem_cons, List.not_mem_nil, or_false] at hm
          rcases hm with rfl | rfl
          · exact .ret v1 v10 v11
          · exact .jump v2 v20 v21
        have lFD := lxg.trans lD
        have hL5 := lFD.at hL4s np4
        have hcd5 := DzAll.lx hcd lFD
        have hxl : xs4.length = ds4.length := DqAll.length hcd
        refine ⟨_, rfl, _, rfl, M4, xs4, -1, xs4.length - 1, rfl, rfl, hL5, ?_, ?_⟩
        · unfold L2.ixN
          rw [if_neg (by decide), if_pos (by omega)]
          exact congrArg some (by omega)
        · have hno : noLs ds4 = true := noLs_of fun d hd => (hci d hd).ok.2
          have hnM : H M4 = none := hM4
          refine ⟨xs4.set (xs4.length - 1) x, ds4.set (xs4.length - 1) di, rfl, (lxF.trans lFD).mut np4 hnM, upd_same, DqAll.setA (hcd5.mutD hL5 np4 hno) (Dz.mutD hL5 np4 hxi hin.ok.2) _, by rw [List.length_set]; exact hcl, fun d hd => ?_, Dz.mutD hL5 np4 (dpF.lx lFD) (noLs_of (ds := ps) fun k hk => by obtain ⟨z, hz, rfl⟩ := hpt k hk; rfl)⟩
          rcases List.mem_or_eq_of_mem_set hd with q | q
          · exact hci d q
          · subst q; exact hin
    rintro σ' HG ⟨xs5, ds5, rfl, lxG, hL4G, hcdG, hclG, hciG, dpG⟩
    refine ⟨_, rfl, _, rfl, p, rfl, lxG.sc, fun z H9 hz lx9 => ⟨_, rfl, _, rfl, fun x dx hx hdx hne => ?_⟩⟩
    have lxH := lxG.trans lx9
    have dp9 := dpG.lx lx9
    have dc9 : Dz p H9 (.ref M4) (.list ds5) := .lst (by rw [rm_ne np4]; exact lx9.at hL4G np4) (DqAll.ext lx9.ex hcdG)
    have hps : noLs ps = true := noLs_of fun k hk => by obtain ⟨z, hz, rfl⟩ := hpt k hk; rfl
    have hcs : noLs ds5 = true := noLs_of fun d hd => (hciG d hd).ok.2
    have mp : MethP ps z sz ds5 := ⟨hpl2, hpt, hz, hsz0, hsz1, by omega, by omega, fun d hd => by rw [hclG]; exact hciG d hd⟩
    have e1 : Evl.Ex H9 (upd (upd H9 dx (.own x)) x (.ins (He.ga K "Method") dx [])) := fun b o e => by
      rw [upd_ne (by rintro rfl; rw [hx] at e; cases e), upd_ne (by rintro rfl; rw [hdx] at e; cases e)]; exact e
    have npx : x ≠ p := lxH.sc.ne hx
    have lxI := lxH.then e1
    refine ⟨x, dx, _, _, _, _, _, _, _, _, _, sz, rfl, upd_same, mp.parts (dp9.q.ext e1) (dc9.q.ext e1) rfl rfl (decide_eq_true (by omega)) (decide_eq_true (by omega)) ?_ ?_ "m" (by decide) ⟨by decide, by decide +kernel⟩, fun H' p' c' hk ha hp' hc' => ⟨rfl, ?_⟩⟩
    · exact okAll_of fun k hk => by obtain ⟨w', hw, rfl⟩ := hpt k hk; exact ok_str ⟨by have := (tyS_ok w' hw).2.1; omega, (tyS_ok w' hw).2.2⟩
    · exact okAll_of fun d hd => (hciG d hd).ok.1
    obtain ⟨cN, cS, hsrc, csr⟩ := lxI.sc
    have hsrc' := hk p _ (Ne.symm npx) hsrc
    have lxJ : Lx p H H' := by
      refine ⟨fun b o e => ?_, ⟨cN, cS, hsrc', csr⟩⟩
      have nb := rm_ne_of e
      have e2 := lxI.ex b o e
      rw [rm_ne nb] at e e2 ⊢
      refine hk b o ?_ e2
      rintro rfl
      have := lxH.at e nb
      rw [hx] at this
      cases this
    exact hQ (.ref x) ps z sz ds5 H' lxJ ⟨x, dx, p', c', rfl, by rw [rm_ne npx]; exact ha, dq_rmL hsrc' hp' hps, dq_rmL hsrc' hc' hcs⟩ mp
end
end K03
set_option Elab.async false
set_option linter.all false
set_option maxRecDepth 100000
set_option maxHeartbeats 0
namespace EX2
open PySem PySem.Spec PyProof.Rows L2
section
variable {K : PySem.W.Frag} {H : Hp}
mutual
/-- data without dicts, for == -/
theorem dp_of : ∀ {x : V} {d : PyData}, Dq H x d → d.canLay0 = true → Dp K H x d
  | _, _, .non, _ => .non
  | _, _, .bl b, _ => .bl b
  | _, _, .int i, _ => .int i
  | _, _, .str x, _ => .str x
  | _, _, .lst q h, n => .lst (SqL.of q) (dpAll_of h n)
  | _, _, .tup q h, n => .tup (SqT.of q) (dpAll_of h n)
  | _, _, .dk q h, n => by cases n
theorem dpAll_of : ∀ {xs : List V} {ds : List PyData}, DqAll H xs ds → PyData.canLayAll0 ds = true → DpAll K H xs ds
  | _, _, .nil, _ => .nil
  | _, _, .cons h t, n => by
    simp only [PyData.canLayAll0, Bool.and_eq_true] at n
    exact .cons (dp_of h n.1) (dpAll_of t n.2)
end
end
/-- instances of the class are known to isinstance -/
structure InsF (K : PySem.W.Frag) (C : Addr) : Prop where
  ha : PySem.W.findIn K (.ref C) "__class__" = some (some (.builtin "object.__class__"))
  hn : PySem.W.specialIn K (.builtin "object.__class__") "__get__" = some (some (.builtin "getset_descriptor.__get__"))
  ht : PySem.W.takesIn K (.builtin "object.__class__") = some true
  hm : PySem.W.mroIn K C (.type "object") = some true
  kl : PySem.W.kitOne K (.type "list") (.ref C) = some false
theorem InsF.kc {K : PySem.W.Frag} {C : Addr} (_ : InsF K C) : PySem.W.kitOne K (.ref C) (.ref C) = some true := by
  unfold PySem.W.kitOne
  rw [if_pos (by simp)]
end EX2
namespace K03
open PySem PySem.Spec PyProof.Rows L2 EX2
/-- a method, its parts as data -/
def MethD (C : Addr) (H : Hp) (m : V) (d : PyData) : Prop := ∃ (x dx : Addr) (n p r z c : V) (ds : List PyData), m = .ref x ∧ H x = some (.ins C dx (mfields n p r z c)) ∧ DqAll H [n, p, r, z, c] ds ∧ d = .tuple ds
theorem MethD.ext {C : Addr} {H H' : Hp} {m : V} {d : PyData} (h : MethD C H m d) (e : Evl.Ex H H') : MethD C H' m d := by
  obtain ⟨x, dx, n, p, r, z, c, ds, h1, h2, h3, h4⟩ := h
  exact ⟨x, dx, n, p, r, z, c, ds, h1, e _ _ h2, h3.ext e, h4⟩
def spParts (C : Addr) : Sp := fun vs H Q _ => ∃ (a dx : Addr) (n p r z c : V), vs = [.ref a] ∧ H a = some (.ins C dx (mfields n p r z c)) ∧ ∀ t, H t = none → Q (.ref t) (upd H t (.tup [n, p, r, z, c]))
def spEqM (C : Addr) : Sp := fun vs H Q _ => ∃ (x y : V) (d : PyData), vs = [x, y] ∧ MethD C H x d ∧ SeqAt.shaped d = true ∧
  ((∃ e, MethD C H y e ∧ SeqAt.shaped e = true ∧ ∀ H', Evl.Ex H H' → Q (.bl (PyData.eqv d e)) H') ∨ (∃ b xs, y = .ref b ∧ H b = some (.lst xs) ∧ ∀ H', Evl.Ex H H' → Q (.bl false) H'))
section
variable {P : Program} {w : World} {K : PySem.W.Frag} {mg : Str → Option Value} {base : Heap} {f : Addr} {fd : FuncData}
abbrev nParts : List Str := ["self"]
theorem scParts : FnScope nParts ["self"] (defScope sParts) := ⟨rfl, rfl, rfl, by decide +kernel, rfl, by decide +kernel, by decide +kernel⟩
theorem ok_parts (F : FunD K "parts" "Method.parts" (defArgs sParts) (defBody sParts) (defScope sParts) [] [] f fd) (M : MethF K mg) : FnOk P w K mg base CX0 1 f fd ["self"] (spParts (He.ga K "Method")) := by
  refine F.ok scParts (fun vs H Q E h => ?_) (fun cdv A outer s H vs Q E hr h => ?_)
  · obtain ⟨a, dx, n, p, r, z, c, rfl, _⟩ := h
    rfl
  · obtain ⟨a, dx, n, p, r, z, c, rfl, ha, hQ⟩ := h
    refine ⟨_, PSs.nox (pss_one (ps_ret (pe_tup (pa_cons (pe_fld (pv 0) rfl) (pa_cons (pe_fld (pv 0) rfl) (pa_cons (pe_fld (pv 0) rfl) (pa_cons (pe_fld (pv 0) rfl) (pa_cons (pe_fld (pv 0) rfl) pa_nil)))))))), ?_⟩
    refine ⟨_, rfl, a, _, dx, _, _, rfl, ha, M.cl, M.n1, rfl, _, rfl, a, _, dx, _, _, rfl, ha, M.cl, M.n2, rfl, _, rfl, a, _, dx, _, _, rfl, ha, M.cl, M.n3, rfl, _, rfl, a, _, dx, _, _, rfl, ha, M.cl, M.n4, rfl, _, rfl, a, _, dx, _, _, rfl, ha, M.cl, M.n5, rfl, le_line (by simp), fun t ht => hQ t ht⟩
abbrev nEq : List Str := ["self", "other"]
theorem scEq : FnScope nEq ["self", "other"] (defScope sEq) := ⟨rfl, rfl, rfl, by decide +kernel, rfl, by decide +kernel, by decide +kernel⟩
theorem ok_eqM (F : FunD K "__eq__" "Method.__eq__" (defArgs sEq) (defBody sEq) (defScope sEq) [] [] f fd) (D : Defs w K mg) (M : MethF K mg) (IF : InsF K (He.ga K "Method")) : FnOk P w K mg base CX0 2 f fd ["self", "other"] (spEqM (He.ga K "Method")) := by
  have T := D.t
  obtain ⟨fdP, FP⟩ := M.parts
  have GP : FnOk P w K mg base CX0 1 _ fdP ["self"] (spParts (He.ga K "Method")) := ok_parts FP M
  have bP : Binds K fdP ["self"] [] := FunD.bindsN FP fun _ _ _ _ _ _ us hl => match us, hl with | [_], _ => rfl
  refine F.ok scEq (fun vs H Q E h => ?_) (fun cdv A outer s H vs Q E hr h => ?_)
  · obtain ⟨x, y, d, rfl, _⟩ := h
    rfl
  · obtain ⟨x, y, d, rfl, hx, sd, h⟩ := h
    refine ⟨_, PSs.nox (pss_one (ps_ret (pe_and (pe_callB call_isi rfl T.isi boot_isi (pa_cons (pv 1) (pa_cons (pe_glob rfl M.hm (v := .ref (He.ga K "Method")) rfl) pa_nil))) (pe_one (pe_cmpR (op_eqD hr.units) (pe_meth0 (pv 0) M.cl M.pm GP hr bP .nil pass0) (pe_meth0 (pv 1) M.cl M.pm GP hr bP .nil pass0) (nomark _)))))), ?_⟩
    obtain ⟨xa, dx, n, p, r, z, c, ds, rfl, hxa, hds, rfl⟩ := hx
    rcases h with ⟨e, ⟨ya, dy, n', p', r', z', c', es, rfl, hya, hes, rfl⟩, se, hQ⟩ | ⟨b, xs, rfl, hb, hQ⟩
    · refine ⟨_, rfl, _, _, _, _, _, rfl, .own _, .base (.ins hya M.cl IF.ha IF.hn IF.ht IF.hm), IF.kc, _, rfl, iteT ?_⟩
      refine ⟨_, rfl, xa, dx, _, rfl, hxa, rfl, xa, dx, n, p, r, z, c, rfl, hxa, fun t ht => ?_⟩
      have e1 := Evl.Ex.new (o := .tup [n, p, r, z, c]) ht
      refine ⟨_, rfl, ya, dy, _, rfl, e1 _ _ hya, rfl, ya, dy, n', p', r', z', c', rfl, e1 _ _ hya, fun t' ht' => ?_⟩
      have e2 := Evl.Ex.new (o := .tup [n', p', r', z', c']) ht'
      exact ⟨_, _, .tup (SqT.of (e2 _ _ upd_same)) (dpAll_of (hds.ext (e1.trans e2)) (SeqAt.canLay_of_shaped sd)), .tup (SqT.of upd_same) (dpAll_of (hes.ext (e1.trans e2)) (SeqAt.canLay_of_shaped se)), sd, se, hQ _ (e1.trans e2)⟩
    · exact ⟨_, rfl, _, _, _, _, _, rfl, .own _, .base (.lst hb), IF.kl, _, rfl, iteF (hQ _ (Evl.Ex.refl _))⟩
end
end K03
set_option Elab.async false
set_option linter.all false
set_option maxRecDepth 100000
set_option maxHeartbeats 0
namespace K03
open PySem PySem.Spec PyProof.Rows L2 EX2
abbrev sRef : Stmt := top 31
/-- data that can be shown -/
structure ShowD (d : PyData) : Prop where
  s : d.showable = true
  z : d.shown.length ≤ 100000
  p : d.depth ≤ 60
def spRef : Sp := fun vs H Q _ => ∃ (L : Addr) (n p r z c : V) (dn dp dr dz dc : PyData), vs = [.ref L] ∧ H L = some (.lst [n, p, r, z, c]) ∧ PartsW H n p r z c dn dp dr dz dc ∧
  (∀ x, badV n p r z c dn dp dr dz dc = some x → ∃ d, Dw H x d ∧ ShowD d ∧ ∀ R H', Evl.Ex H H' → H' R = some (.lst [.str d.shown, .bl true]) → Q (.ref R) H') ∧
  (badV n p r z c dn dp dr dz dc = none → ∀ H', Evl.Ex H H' → Q .non H')
section
variable {P : Program} {w : World} {K : PySem.W.Frag} {mg : Str → Option Value} {base : Heap} {f : Addr} {fd : FuncData}
abbrev nRef : List Str := ["_law_parts", "e"]
theorem scRef : FnScope nRef ["_law_parts"] (defScope sRef) := ⟨rfl, rfl, rfl, by decide +kernel, rfl, by decide +kernel, by decide +kernel⟩
theorem boot_rep : bootBuiltins "repr" = some (.builtin "repr") := by kernel_rfl
theorem ok_ref (F : FnP K "_law_refused" sRef f fd) (D : Defs w K mg) (M : MethF K mg) (XF : ExcF P w K mg base) (sd : SysD base) (gR : mg "repr" = none) : FnOkG P w K mg base 8 f fd ["_law_parts"] spRef := by
  have T := D.t
  obtain ⟨fdI, FI⟩ := M.init
  have GI : FnOk P w K mg base (L2.CX P w) 6 _ fdI ["self", "name", "params", "result", "size", "code"] (spInitX (He.ga K "Method") (He.ga K "InvalidMethod")) := ok_initX FI D M XF
  have bI : Binds K fdI ["self", "name", "params", "result", "size", "code"] [] := FI.bindsN fun _ _ _ _ _ _ us hl => match us, hl with | [_, _, _, _, _, _], _ => rfl
  refine EX2.okG F scRef (fun vs H Q E h => ?_) (fun cdv A outer s H vs Q E hg hr h => ?_)
  · obtain ⟨L, n, p, r, z, c, dn, dp, dr, dz, dc, rfl, _⟩ := h
    rfl
  · obtain ⟨L, n, p, r, z, c, dn, dp, dr, dz, dc, rfl, hL, ok, hX, hQ⟩ := h
    have hG : (A.deeper (envOfC "_law_refused" (defScope sRef) s.heap.objs.size f cdv)).guards = some [] := by rw [EX2.guards_deeper]; exact hg
    have hu : (A.deeper (envOfC "_law_refused" (defScope sRef) s.heap.objs.size f cdv)).units + 65 < cLine := by have := hr.un; omega
    refine ⟨_, PSs.nox (pss_cons (ps_try_as rfl rfl scRef.nd (i := 1) rfl rfl ⟨rfl, by decide, .inl XF.hm⟩ takes0
        (fun W pn xe tk po => pss_one (ps_expr (pe_makeS M.mkr GI hr rfl M.hm bI (fun σ => passAt tk σ) (pa_cons (pe_ix (r := rIxL K) ix_list (pv 0) pe_int (fun _ _ => rfl)) (pa_cons (pe_ix (r := rIxL K) ix_list (pv 0) pe_int (fun _ _ => rfl)) (pa_cons (pe_ix (r := rIxL K) ix_list (pv 0) pe_int (fun _ _ => rfl)) (pa_cons (pe_ix (r := rIxL K) ix_list (pv 0) pe_int (fun _ _ => rfl)) (pa_cons (pe_ix (r := rIxL K) ix_list (pv 0) pe_int (fun _ _ => rfl)) pa_nil))))))))
        (fun a oe cls d pn hz hf => pss_one (ps_ret (pe_lst (pa_cons (pe_callB (r := rReprW) (call_reprW hG hu sd) rfl gR boot_rep (pa_cons (pe_xf XF.g.x (XF.g.no _ (List.mem_singleton.mpr rfl)) hz hf (pv 1)) pa_nil)) (pa_cons (pe_callB (r := rIsXE K a cls d) (call_isXE hz hf) rfl T.isi boot_isi (pa_cons (pv 1) (pa_cons (pe_glob rfl XF.hB (v := .ref (He.ga K "ClassError")) rfl) pa_nil))) pa_nil))))))
      (pss_one (ps_ret pe_non))), ?_⟩
    refine ⟨_, rfl, L, _, 0, n, rfl, rfl, SqL.of hL, at0, _, rfl, L, _, 1, p, rfl, rfl, SqL.of hL, atI_nat (j := 1) rfl, _, rfl, L, _, 2, r, rfl, rfl, SqL.of hL, atI_nat (j := 2) rfl, _, rfl, L, _, 3, z, rfl, rfl, SqL.of hL, atI_nat (j := 3) rfl, _, rfl, L, _, 4, c, rfl, rfl, SqL.of hL, atI_nat (j := 4) rfl, fun a dx ha hdx hne => ?_⟩
    have e1 : Evl.Ex H (upd (upd H dx (.own a)) a (.ins (He.ga K "Method") dx [])) := fun b o e => by
      rw [upd_ne (by rintro rfl; rw [ha] at e; cases e), upd_ne (by rintro rfl; rw [hdx] at e; cases e)]; exact e
    refine ⟨a, dx, n, p, r, z, c, dn, dp, dr, dz, dc, rfl, upd_same, ok.ext e1, fun x hb dd H' e2 hd => ⟨true, ?_, fun _ a' ha' => ?_, fun h => nomatch h⟩, fun hb H' p' c' hk ha' hp' hc' => ⟨rfl, ?_⟩⟩
    · refine PySem.W.exm_ref XF.g.t.exC XF.g.t.hdC XF.g.t.tyC ?_
      have := XF.g.self
      exact this
    · obtain ⟨d, hw, hs, hR⟩ := hX x hb
      have e12 := e1.trans e2
      refine ⟨_, rfl, rfl, rfl, dd, _, x, rfl, hd, rfl, x, d, rfl, hw.ext e12, hs.s, Nat.le_trans hs.z (by rw [sizeLine_eq]; decide), hs.p, _, rfl, _, dd, _, _, _, true, rfl, .own _, rfl, rfl, hd, XF.g.c, XF.g.kitB XF.cB, le_line (by simp), fun R hR' => ?_⟩
      exact hR R _ (e12.trans (Evl.Ex.new hR')) upd_same
    · refine hQ hb H' fun b o e => ?_
      have nb : b ≠ a := by rintro rfl; rw [ha] at e; cases e
      exact hk b o nb (e1 b o e)
end
end K03
set_option Elab.async false
set_option linter.all false
set_option maxRecDepth 100000
set_option maxHeartbeats 0
namespace K03
open PySem PySem.Spec PyProof.Rows L2 EX2
abbrev sCodes : Stmt := top 32
/-- things laid one after another, apart from the source -/
structure LaidW (p : Addr) (H H' : Hp) (as : List V) (ds : List PyData) : Prop where
  lx : Lx p H H'
  all : ∀ x ∈ as, ∃ d ∈ ds, Dw (rm p H') x d
section
variable {p : Addr} {H H' H'' : Hp} {as bs : List V} {ds es : List PyData} {a : Addr}
theorem LaidW.nil (s : Sc p H) : LaidW p H H [] [] := ⟨.refl s, fun x h => nomatch h⟩
theorem LaidW.ext (h : LaidW p H H' as ds) (l : Lx p H' H'') : LaidW p H H'' as ds := ⟨h.lx.trans l, fun x hx => let ⟨d, hd, hw⟩ := h.all x hx; ⟨d, hd, hw.ext l.ex⟩⟩
theorem LaidW.addW (h : LaidW p H H' as ds) {x : V} {d : PyData} (hx : Dw (rm p H') x d) : LaidW p H H' (as ++ [x]) (ds ++ [d]) :=
  ⟨h.lx, fun y hy => (List.mem_append.mp hy).elim (fun q => let ⟨d, hd, hw⟩ := h.all y q; ⟨d, List.mem_append_left _ hd, hw⟩) fun q => by
    rw [List.mem_singleton] at q
    subst q
    exact ⟨d, List.mem_append_right _ (List.mem_singleton.mpr rfl), hx⟩⟩
theorem LaidW.add (h : LaidW p H H' as ds) {x : V} {d : PyData} (hx : Dz p H' x d) : LaidW p H H' (as ++ [x]) (ds ++ [d]) := h.addW (.q hx)
end
theorem rep41 {p : Addr} {H : Hp} {x : V} {d : PyData} (h : Dz p H x d) : DzAll p H (List.replicate (41 : Int).toNat [x]).flatten (List.replicate 41 d) := by
  have g : ∀ n : Nat, DzAll p H (List.replicate n [x]).flatten (List.replicate n d) := fun n => by
    induction n with
    | zero => exact .nil
    | succ n ih => rw [List.replicate_succ, List.replicate_succ]; exact .cons h ih
  exact g 41
def codesD (sz : Int) : List PyData := [.list [], .none, .str "code", .list (List.replicate 41 (.tuple [.str "null", .int 0])), .list [.tuple [.str "move", .int 0, .int sz]], .list [.tuple [.str "jump", .int 1]], .list [.tuple [.str "null", .int 0], .tuple [.str "ifnull", .int 0, .int 2]], .list [.list [.str "null", .int 0]]] ++
  [.list [.tuple [.str "store", .int sz, .int 0, .int 0]], .list [.tuple [.str "call", .int 0, .int 0, .str "a", .str "f", .tuple [.str "a"], .str "a", .tuple [.int sz]]], .list [.tuple [.str "null", .bool true]]] ++
  [tdD [.inr "null", .inl 0] (.int 1), .tuple [.tuple [.str "null"]], .list [.tuple [.str "array", .int 0, .str "a", .int 10]], .list [.tuple [.str "load", .int sz, .int 0, .int 0]], .list [.tuple [.str "return", .int sz]]]
def spCodes : Sp := fun vs H Q _ => ∃ (p : Addr) (sz : Int), vs = [.int sz] ∧ Sc p H ∧ ∀ L xs H', Lx p H H' → H L = none → H' L = some (.lst xs) → xs.length = 16 → (∀ x ∈ xs, ∃ d ∈ codesD sz, Dw (rm p H') x d) → Q (.ref L) H'
section
variable {P : Program} {w : World} {K : PySem.W.Frag} {mg : Str → Option Value} {base : Heap} {f : Addr} {fd : FuncData}
abbrev nCodes : List Str := ["_law_size", "_law_far", "_law_last", "_law_found"]
theorem scCodes : FnScope nCodes ["_law_size"] (defScope sCodes) := ⟨rfl, rfl, rfl, by decide +kernel, rfl, by decide +kernel, by decide +kernel⟩
theorem ok_codes (F : FnP K "_law_codes" sCodes f fd) (D : Defs w K mg) : FnOk P w K mg base CX0 1 f fd ["_law_size"] spCodes := by
  have T := D.t
  refine F.ok scCodes (fun vs H Q E h => ?_) (fun cdv A outer s H vs Q E hr h => ?_)
  · obtain ⟨p, sz, rfl, _⟩ := h
    rfl
  · obtain ⟨p, sz, rfl, hs, hQ⟩ := h
    have hu : (A.deeper (envOfC "_law_codes" (defScope sCodes) s.heap.objs.size f cdv)).units + 1 < cLine := by have := hr.un; omega
    refine ⟨_, PSs.nox (pss_cons (ps_par (i := 1) (j := 2) rfl scCodes.nd rfl rfl (by decide) rfl rfl (pa_cons (pe_tup (pa_cons pe_str (pa_cons pe_int (pa_cons (pv 0) pa_nil)))) (pa_cons (pe_tup (pa_cons pe_str (pa_cons pe_int pa_nil))) pa_nil)) (by rfl))
      (pss_cons (ps_set (i := 3) scCodes.nd rfl (Or.inl rfl) (pe_lst (pa_cons (pe_lst pa_nil) (pa_cons pe_non (pa_cons pe_str (pa_cons (pe_op op_rep (pe_lst (pa_cons (pe_tup (pa_cons pe_str (pa_cons pe_int pa_nil))) pa_nil)) pe_int) (pa_cons (pe_lst (pa_cons (pv 1) pa_nil)) (pa_cons (pe_lst (pa_cons (pv 2) pa_nil)) (pa_cons (pe_lst (pa_cons (pe_tup (pa_cons pe_str (pa_cons pe_int pa_nil))) (pa_cons (pe_tup (pa_cons pe_str (pa_cons pe_int (pa_cons pe_int pa_nil)))) pa_nil))) (pa_cons (pe_lst (pa_cons (pe_lst (pa_cons pe_str (pa_cons pe_int pa_nil))) pa_nil)) pa_nil))))))))))
      (pss_cons (ps_set (i := 3) scCodes.nd rfl (Or.inl rfl) (pe_op op_cat (pv 3) (pe_lst (pa_cons (pe_lst (pa_cons (pe_tup (pa_cons pe_str (pa_cons (pv 0) (pa_cons pe_int (pa_cons pe_int pa_nil))))) pa_nil)) (pa_cons (pe_lst (pa_cons (pe_tup (pa_cons pe_str (pa_cons pe_int (pa_cons pe_int (pa_cons pe_str (pa_cons pe_str (pa_cons (pe_tup (pa_cons pe_str pa_nil)) (pa_cons pe_str (pa_cons (pe_tup (pa_cons (pv 0) pa_nil)) pa_nil))))))))) pa_nil)) (pa_cons (pe_lst (pa_cons (pe_tup (pa_cons pe_str (pa_cons pe_bl pa_nil))) pa_nil)) pa_nil))))))
      (pss_one (ps_ret (pe_op op_cat (pv 3) (pe_lst (pa_cons (pe_disT hu (pe_tup (pa_cons pe_str (pa_cons pe_int pa_nil))) pe_int) (pa_cons (pe_tup (pa_cons (pe_tup (pa_cons pe_str pa_nil)) pa_nil)) (pa_cons (pe_lst (pa_cons (pe_tup (pa_cons pe_str (pa_cons pe_int (pa_cons pe_str (pa_cons pe_int pa_nil))))) pa_nil)) (pa_cons (pe_lst (pa_cons (pe_tup (pa_cons pe_str (pa_cons (pv 0) (pa_cons pe_int (pa_cons pe_int pa_nil))))) pa_nil)) (pa_cons (pe_lst (pa_cons (pe_tup (pa_cons pe_str (pa_cons (pv 0) pa_nil))) pa_nil)) pa_nil)))))))))))), ?_⟩
    have l0 : Lx p H H := .refl hs
    refine ⟨_, rfl, le_line (by simp), fun far hfar => ?_⟩
    have e1 := Evl.Ex.new (o := (.tup [.str "move", .int 0, .int sz])) hfar
    have m1 : Lx p H (upd H far (.tup [.str "move", .int 0, .int sz])) := .of l0.sc e1
    have l1 := l0.trans m1
    have zfar : Dz p (upd H far (.tup [.str "move", .int 0, .int sz])) (.ref far) (.tuple [.str "move", .int 0, .int sz]) := Dz.tupN l0.sc hfar (.cons (.str "move") (.cons (.int 0) (.cons (.int sz) .nil)))
    generalize (upd H far (.tup [.str "move", .int 0, .int sz])) = H1_ at m1 e1 l1 zfar
    refine ⟨le_line (by simp), fun last hlast => ?_⟩
    have e2 := Evl.Ex.new (o := (.tup [.str "jump", .int 1])) hlast
    have m2 : Lx p H1_ (upd H1_ last (.tup [.str "jump", .int 1])) := .of l1.sc e2
    have l2 := l1.trans m2
    have zlast : Dz p (upd H1_ last (.tup [.str "jump", .int 1])) (.ref last) (.tuple [.str "jump", .int 1]) := Dz.tupN l1.sc hlast (.cons (.str "jump") (.cons (.int 1) .nil))
    replace zfar := Dz.lx zfar m2
    generalize (upd H1_ last (.tup [.str "jump", .int 1])) = H2_ at m2 e2 l2 zfar zlast
    have w : LaidW p H H2_ [] [] := (LaidW.nil hs).ext l2
    refine ⟨_, _, rfl, Nat.zero_le _, fun i1 hi1 => ?_⟩
    have e3 := Evl.Ex.new (o := (.lst [])) hi1
    have m3 : Lx p H2_ (upd H2_ i1 (.lst [])) := .of l2.sc e3
    have l3 := l2.trans m3
    have zi1 : Dz p (upd H2_ i1 (.lst [])) (.ref i1) (.list []) := Dz.lstN l2.sc hi1 .nil
    replace zfar := Dz.lx zfar m3
    replace zlast := Dz.lx zlast m3
    replace w := LaidW.ext w m3
    generalize (upd H2_ i1 (.lst [])) = H3_ at m3 e3 l3 zfar zlast w zi1
    replace w := LaidW.add w zi1
    replace w := LaidW.add w .non
    replace w := LaidW.add w (.str "code")
    refine ⟨le_line (by simp), fun t4 ht4 => ?_⟩
    have e4 := Evl.Ex.new (o := (.tup [.str "null", .int 0])) ht4
    have m4 : Lx p H3_ (upd H3_ t4 (.tup [.str "null", .int 0])) := .of l3.sc e4
    have l4 := l3.trans m4
    have zt4 : Dz p (upd H3_ t4 (.tup [.str "null", .int 0])) (.ref t4) (.tuple [.str "null", .int 0]) := Dz.tupN l3.sc ht4 (.cons (.str "null") (.cons (.int 0) .nil))
    replace zfar := Dz.lx zfar m4
    replace zlast := Dz.lx zlast m4
    replace w := LaidW.ext w m4
    generalize (upd H3_ t4 (.tup [.str "null", .int 0])) = H4_ at m4 e4 l4 zfar zlast w zt4
    refine ⟨le_line (by simp), fun q4 hq4 => ?_⟩
    have e5 := Evl.Ex.new (o := (.lst [.ref t4])) hq4
    have m5 : Lx p H4_ (upd H4_ q4 (.lst [.ref t4])) := .of l4.sc e5
    have l5 := l4.trans m5
    have zq4 : Dz p (upd H4_ q4 (.lst [.ref t4])) (.ref q4) (.list [.tuple [.str "null", .int 0]]) := Dz.lstN l4.sc hq4 (.cons zt4 .nil)
    have sq4 : (upd H4_ q4 (.lst [.ref t4])) q4 = some (.lst [.ref t4]) := upd_same
    have npq4 := l4.sc.ne hq4
    replace zfar := Dz.lx zfar m5
    replace zlast := Dz.lx zlast m5
    replace w := LaidW.ext w m5
    replace zt4 := Dz.lx zt4 m5
    generalize (upd H4_ q4 (.lst [.ref t4])) = H5_ at m5 e5 l5 zfar zlast w zt4 zq4 sq4
    refine ⟨q4, 41, [.ref t4], rfl, rfl, sq4, by decide, by decide, le_line (by simp), fun i4 hi4 => ?_⟩
    have e6 := Evl.Ex.new (o := (.lst (List.replicate (41 : Int).toNat [.ref t4]).flatten)) hi4
    have m6 : Lx p H5_ (upd H5_ i4 (.lst (List.replicate (41 : Int).toNat [.ref t4]).flatten)) := .of l5.sc e6
    have l6 := l5.trans m6
    have zi4 : Dz p (upd H5_ i4 (.lst (List.replicate (41 : Int).toNat [.ref t4]).flatten)) (.ref i4) (.list (List.replicate 41 (.tuple [.str "null", .int 0]))) := Dz.lstN l5.sc hi4 (rep41 zt4)
    replace zfar := Dz.lx zfar m6
    replace zlast := Dz.lx zlast m6
    replace w := LaidW.ext w m6
    replace zt4 := Dz.lx zt4 m6
    replace sq4 := e6 _ _ sq4
    generalize (upd H5_ i4 (.lst (List.replicate (41 : Int).toNat [.ref t4]).flatten)) = H6_ at m6 e6 l6 zfar zlast w zt4 sq4 zi4
    replace w := LaidW.add w zi4
    refine ⟨_, rfl, le_line (by simp), fun i5 hi5 => ?_⟩
    have e7 := Evl.Ex.new (o := (.lst [.ref far])) hi5
    have m7 : Lx p H6_ (upd H6_ i5 (.lst [.ref far])) := .of l6.sc e7
    have l7 := l6.trans m7
    have zi5 : Dz p (upd H6_ i5 (.lst [.ref far])) (.ref i5) (.list [.tuple [.str "move", .int 0, .int sz]]) := Dz.lstN l6.sc hi5 (.cons zfar .nil)
    replace zfar := Dz.lx zfar m7
    replace zlast := Dz.lx zlast m7
    replace w := LaidW.ext w m7
    generalize (upd H6_ i5 (.lst [.ref far])) = H7_ at m7 e7 l7 zfar zlast w zi5
    replace w := LaidW.add w zi5
    refine ⟨_, rfl, le_line (by simp), fun i6 hi6 => ?_⟩
    have e8 := Evl.Ex.new (o := (.lst [.ref last])) hi6
    have m8 : Lx p H7_ (upd H7_ i6 (.lst [.ref last])) := .of l7.sc e8
    have l8 := l7.trans m8
    have zi6 : Dz p (upd H7_ i6 (.lst [.ref last])) (.ref i6) (.list [.tuple [.str "jump", .int 1]]) := Dz.lstN l7.sc hi6 (.cons zlast .nil)
    replace zlast := Dz.lx zlast m8
    replace w := LaidW.ext w m8
    generalize (upd H7_ i6 (.lst [.ref last])) = H8_ at m8 e8 l8 zlast w zi6
    replace w := LaidW.add w zi6
    refine ⟨le_line (by simp), fun ta hta => ?_⟩
    have e9 := Evl.Ex.new (o := (.tup [.str "null", .int 0])) hta
    have m9 : Lx p H8_ (upd H8_ ta (.tup [.str "null", .int 0])) := .of l8.sc e9
    have l9 := l8.trans m9
    have zta : Dz p (upd H8_ ta (.tup [.str "null", .int 0])) (.ref ta) (.tuple [.str "null", .int 0]) := Dz.tupN l8.sc hta (.cons (.str "null") (.cons (.int 0) .nil))
    replace w := LaidW.ext w m9
    generalize (upd H8_ ta (.tup [.str "null", .int 0])) = H9_ at m9 e9 l9 w zta
    refine ⟨le_line (by simp), fun tb htb => ?_⟩
    have e10 := Evl.Ex.new (o := (.tup [.str "ifnull", .int 0, .int 2])) htb
    have m10 : Lx p H9_ (upd H9_ tb (.tup [.str "ifnull", .int 0, .int 2])) := .of l9.sc e10
    have l10 := l9.trans m10
    have ztb : Dz p (upd H9_ tb (.tup [.str "ifnull", .int 0, .int 2])) (.ref tb) (.tuple [.str "ifnull", .int 0, .int 2]) := Dz.tupN l9.sc htb (.cons (.str "ifnull") (.cons (.int 0) (.cons (.int 2) .nil)))
    replace w := LaidW.ext w m10
    replace zta := Dz.lx zta m10
    generalize (upd H9_ tb (.tup [.str "ifnull", .int 0, .int 2])) = H10_ at m10 e10 l10 w zta ztb
    refine ⟨le_line (by simp), fun i7 hi7 => ?_⟩
    have e11 := Evl.Ex.new (o := (.lst [.ref ta, .ref tb])) hi7
    have m11 : Lx p H10_ (upd H10_ i7 (.lst [.ref ta, .ref tb])) := .of l10.sc e11
    have l11 := l10.trans m11
    have zi7 : Dz p (upd H10_ i7 (.lst [.ref ta, .ref tb])) (.ref i7) (.list [.tuple [.str "null", .int 0], .tuple [.str "ifnull", .int 0, .int 2]]) := Dz.lstN l10.sc hi7 (.cons zta (.cons ztb .nil))
    replace w := LaidW.ext w m11
    replace zta := Dz.lx zta m11
    replace ztb := Dz.lx ztb m11
    generalize (upd H10_ i7 (.lst [.ref ta, .ref tb])) = H11_ at m11 e11 l11 w zta ztb zi7
    replace w := LaidW.add w zi7
    refine ⟨le_line (by simp), fun ic hic => ?_⟩
    have e12 := Evl.Ex.new (o := (.lst [.str "null", .int 0])) hic
    have m12 : Lx p H11_ (upd H11_ ic (.lst [.str "null", .int 0])) := .of l11.sc e12
    have l12 := l11.trans m12
    have zic : Dz p (upd H11_ ic (.lst [.str "null", .int 0])) (.ref ic) (.list [.str "null", .int 0]) := Dz.lstN l11.sc hic (.cons (.str "null") (.cons (.int 0) .nil))
    replace w := LaidW.ext w m12
    generalize (upd H11_ ic (.lst [.str "null", .int 0])) = H12_ at m12 e12 l12 w zic
    refine ⟨le_line (by simp), fun i8 hi8 => ?_⟩
    have e13 := Evl.Ex.new (o := (.lst [.ref ic])) hi8
    have m13 : Lx p H12_ (upd H12_ i8 (.lst [.ref ic])) := .of l12.sc e13
    have l13 := l12.trans m13
    have zi8 : Dz p (upd H12_ i8 (.lst [.ref ic])) (.ref i8) (.list [.list [.str "null", .int 0]]) := Dz.lstN l12.sc hi8 (.cons zic .nil)
    replace w := LaidW.ext w m13
    replace zic := Dz.lx zic m13
    generalize (upd H12_ i8 (.lst [.ref ic])) = H13_ at m13 e13 l13 w zic zi8
    replace w := LaidW.add w zi8
    refine ⟨le_line (by simp), fun L1 hL1 => ?_⟩
    have e14 := Evl.Ex.new (o := (.lst [.ref i1, .non, .str "code", .ref i4, .ref i5, .ref i6, .ref i7, .ref i8])) hL1
    have m14 : Lx p H13_ (upd H13_ L1 (.lst [.ref i1, .non, .str "code", .ref i4, .ref i5, .ref i6, .ref i7, .ref i8])) := .of l13.sc e14
    have l14 := l13.trans m14
    have sL1 : (upd H13_ L1 (.lst [.ref i1, .non, .str "code", .ref i4, .ref i5, .ref i6, .ref i7, .ref i8])) L1 = some (.lst [.ref i1, .non, .str "code", .ref i4, .ref i5, .ref i6, .ref i7, .ref i8]) := upd_same
    have npL1 := l13.sc.ne hL1
    replace w := LaidW.ext w m14
    generalize (upd H13_ L1 (.lst [.ref i1, .non, .str "code", .ref i4, .ref i5, .ref i6, .ref i7, .ref i8])) = H14_ at m14 e14 l14 w sL1
    refine ⟨_, rfl, _, rfl, le_line (by simp), fun td htd => ?_⟩
    have e15 := Evl.Ex.new (o := (.tup [.str "store", .int sz, .int 0, .int 0])) htd
    have m15 : Lx p H14_ (upd H14_ td (.tup [.str "store", .int sz, .int 0, .int 0])) := .of l14.sc e15
    have l15 := l14.trans m15
    have ztd : Dz p (upd H14_ td (.tup [.str "store", .int sz, .int 0, .int 0])) (.ref td) (.tuple [.str "store", .int sz, .int 0, .int 0]) := Dz.tupN l14.sc htd (.cons (.str "store") (.cons (.int sz) (.cons (.int 0) (.cons (.int 0) .nil))))
    replace w := LaidW.ext w m15
    replace sL1 := e15 _ _ sL1
    generalize (upd H14_ td (.tup [.str "store", .int sz, .int 0, .int 0])) = H15_ at m15 e15 l15 w sL1 ztd
    refine ⟨le_line (by simp), fun j1 hj1 => ?_⟩
    have e16 := Evl.Ex.new (o := (.lst [.ref td])) hj1
    have m16 : Lx p H15_ (upd H15_ j1 (.lst [.ref td])) := .of l15.sc e16
    have l16 := l15.trans m16
    have zj1 : Dz p (upd H15_ j1 (.lst [.ref td])) (.ref j1) (.list [.tuple [.str "store", .int sz, .int 0, .int 0]]) := Dz.lstN l15.sc hj1 (.cons ztd .nil)
    replace w := LaidW.ext w m16
    replace sL1 := e16 _ _ sL1
    replace ztd := Dz.lx ztd m16
    generalize (upd H15_ j1 (.lst [.ref td])) = H16_ at m16 e16 l16 w sL1 ztd zj1
    replace w := LaidW.add w zj1
    refine ⟨le_line (by simp), fun te hte => ?_⟩
    have e17 := Evl.Ex.new (o := (.tup [.str "a"])) hte
    have m17 : Lx p H16_ (upd H16_ te (.tup [.str "a"])) := .of l16.sc e17
    have l17 := l16.trans m17
    have zte : Dz p (upd H16_ te (.tup [.str "a"])) (.ref te) (.tuple [.str "a"]) := Dz.tupN l16.sc hte (.cons (.str "a") .nil)
    replace w := LaidW.ext w m17
    replace sL1 := e17 _ _ sL1
    generalize (upd H16_ te (.tup [.str "a"])) = H17_ at m17 e17 l17 w sL1 zte
    refine ⟨_, rfl, le_line (by simp), fun tf htf => ?_⟩
    have e18 := Evl.Ex.new (o := (.tup [.int sz])) htf
    have m18 : Lx p H17_ (upd H17_ tf (.tup [.int sz])) := .of l17.sc e18
    have l18 := l17.trans m18
    have ztf : Dz p (upd H17_ tf (.tup [.int sz])) (.ref tf) (.tuple [.int sz]) := Dz.tupN l17.sc htf (.cons (.int sz) .nil)
    replace w := LaidW.ext w m18
    replace sL1 := e18 _ _ sL1
    replace zte := Dz.lx zte m18
    generalize (upd H17_ tf (.tup [.int sz])) = H18_ at m18 e18 l18 w sL1 zte ztf
    refine ⟨le_line (by simp), fun tg htg => ?_⟩
    have e19 := Evl.Ex.new (o := (.tup [.str "call", .int 0, .int 0, .str "a", .str "f", .ref te, .str "a", .ref tf])) htg
    have m19 : Lx p H18_ (upd H18_ tg (.tup [.str "call", .int 0, .int 0, .str "a", .str "f", .ref te, .str "a", .ref tf])) := .of l18.sc e19
    have l19 := l18.trans m19
    have ztg : Dz p (upd H18_ tg (.tup [.str "call", .int 0, .int 0, .str "a", .str "f", .ref te, .str "a", .ref tf])) (.ref tg) (.tuple [.str "call", .int 0, .int 0, .str "a", .str "f", .tuple [.str "a"], .str "a", .tuple [.int sz]]) := Dz.tupN l18.sc htg (.cons (.str "call") (.cons (.int 0) (.cons (.int 0) (.cons (.str "a") (.cons (.str "f") (.cons zte (.cons (.str "a") (.cons ztf .nil))))))))
    replace w := LaidW.ext w m19
    replace sL1 := e19 _ _ sL1
    replace zte := Dz.lx zte m19
    replace ztf := Dz.lx ztf m19
    generalize (upd H18_ tg (.tup [.str "call", .int 0, .int 0, .str "a", .str "f", .ref te, .str "a", .ref tf])) = H19_ at m19 e19 l19 w sL1 zte ztf ztg
    refine ⟨le_line (by simp), fun j2 hj2 => ?_⟩
    have e20 := Evl.Ex.new (o := (.lst [.ref tg])) hj2
    have m20 : Lx p H19_ (upd H19_ j2 (.lst [.ref tg])) := .of l19.sc e20
    have l20 := l19.trans m20
    have zj2 : Dz p (upd H19_ j2 (.lst [.ref tg])) (.ref j2) (.list [.tuple [.str "call", .int 0, .int 0, .str "a", .str "f", .tuple [.str "a"], .str "a", .tuple [.int sz]]]) := Dz.lstN l19.sc hj2 (.cons ztg .nil)
    replace w := LaidW.ext w m20
    replace sL1 := e20 _ _ sL1
    replace ztg := Dz.lx ztg m20
    generalize (upd H19_ j2 (.lst [.ref tg])) = H20_ at m20 e20 l20 w sL1 ztg zj2
    replace w := LaidW.add w zj2
    refine ⟨le_line (by simp), fun th hth => ?_⟩
    have e21 := Evl.Ex.new (o := (.tup [.str "null", .bl true])) hth
    have m21 : Lx p H20_ (upd H20_ th (.tup [.str "null", .bl true])) := .of l20.sc e21
    have l21 := l20.trans m21
    have zth : Dz p (upd H20_ th (.tup [.str "null", .bl true])) (.ref th) (.tuple [.str "null", .bool true]) := Dz.tupN l20.sc hth (.cons (.str "null") (.cons (.bl true) .nil))
    replace w := LaidW.ext w m21
    replace sL1 := e21 _ _ sL1
    generalize (upd H20_ th (.tup [.str "null", .bl true])) = H21_ at m21 e21 l21 w sL1 zth
    refine ⟨le_line (by simp), fun j3 hj3 => ?_⟩
    have e22 := Evl.Ex.new (o := (.lst [.ref th])) hj3
    have m22 : Lx p H21_ (upd H21_ j3 (.lst [.ref th])) := .of l21.sc e22
    have l22 := l21.trans m22
    have zj3 : Dz p (upd H21_ j3 (.lst [.ref th])) (.ref j3) (.list [.tuple [.str "null", .bool true]]) := Dz.lstN l21.sc hj3 (.cons zth .nil)
    replace w := LaidW.ext w m22
    replace sL1 := e22 _ _ sL1
    replace zth := Dz.lx zth m22
    generalize (upd H21_ j3 (.lst [.ref th])) = H22_ at m22 e22 l22 w sL1 zth zj3
    replace w := LaidW.add w zj3
    refine ⟨le_line (by simp), fun L2_ hL2_ => ?_⟩
    have e23 := Evl.Ex.new (o := (.lst [.ref j1, .ref j2, .ref j3])) hL2_
    have m23 : Lx p H22_ (upd H22_ L2_ (.lst [.ref j1, .ref j2, .ref j3])) := .of l22.sc e23
    have l23 := l22.trans m23
    have sL2_ : (upd H22_ L2_ (.lst [.ref j1, .ref j2, .ref j3])) L2_ = some (.lst [.ref j1, .ref j2, .ref j3]) := upd_same
    have npL2_ := l22.sc.ne hL2_
    replace w := LaidW.ext w m23
    replace sL1 := e23 _ _ sL1
    generalize (upd H22_ L2_ (.lst [.ref j1, .ref j2, .ref j3])) = H23_ at m23 e23 l23 w sL1 sL2_
    refine ⟨L1, L2_, _, _, rfl, rfl, sL1, sL2_, le_line (by simp), fun L3 hL3 => ?_⟩
    have e24 := Evl.Ex.new (o := (.lst ([.ref i1, .non, .str "code", .ref i4, .ref i5, .ref i6, .ref i7, .ref i8] ++ [.ref j1, .ref j2, .ref j3]))) hL3
    have m24 : Lx p H23_ (upd H23_ L3 (.lst ([.ref i1, .non, .str "code", .ref i4, .ref i5, .ref i6, .ref i7, .ref i8] ++ [.ref j1, .ref j2, .ref j3]))) := .of l23.sc e24
    have l24 := l23.trans m24
    have sL3 : (upd H23_ L3 (.lst ([.ref i1, .non, .str "code", .ref i4, .ref i5, .ref i6, .ref i7, .ref i8] ++ [.ref j1, .ref j2, .ref j3]))) L3 = some (.lst ([.ref i1, .non, .str "code", .ref i4, .ref i5, .ref i6, .ref i7, .ref i8] ++ [.ref j1, .ref j2, .ref j3])) := upd_same
    have npL3 := l23.sc.ne hL3
    replace w := LaidW.ext w m24
    replace sL1 := e24 _ _ sL1
    replace sL2_ := e24 _ _ sL2_
    generalize (upd H23_ L3 (.lst ([.ref i1, .non, .str "code", .ref i4, .ref i5, .ref i6, .ref i7, .ref i8] ++ [.ref j1, .ref j2, .ref j3]))) = H24_ at m24 e24 l24 w sL1 sL2_ sL3
    refine ⟨_, rfl, fun dd hdd => ⟨le_line (by simp), fun tk htk => ⟨?_, tk, [.inr "null", .inl 0], .int 1, rfl, upd_same, ?_⟩⟩⟩
    · rw [upd_ne (ne_of_none upd_same htk)]; exact upd_same
    have hdn : dd ≠ tk := ne_of_none upd_same htk
    have e25 : Evl.Ex H24_ (upd (upd (upd H24_ dd (.dT [])) tk (.tup [.str "null", .int 0])) dd (.dT [([.inr "null", .inl 0], .int 1)])) := ((Evl.Ex.new hdd).trans (Evl.Ex.new htk)).mut hdd
    have m25 := Lx.of l24.sc e25
    have l25 := l24.trans m25
    have npd := l24.sc.ne hdd
    have zdd : Dw (rm p (upd (upd (upd H24_ dd (.dT [])) tk (.tup [.str "null", .int 0])) dd (.dT [([.inr "null", .inl 0], .int 1)]))) (.ref dd) (tdD [.inr "null", .inl 0] (.int 1)) := .t (by rw [rm_ne npd]; exact upd_same) (.int 1)
    replace w := LaidW.ext w m25
    replace sL3 := e25 _ _ sL3
    replace w := LaidW.addW w zdd
    generalize (upd (upd (upd H24_ dd (.dT [])) tk (.tup [.str "null", .int 0])) dd (.dT [([.inr "null", .inl 0], .int 1)])) = H25_ at m25 e25 l25 zdd w sL3
    refine ⟨le_line (by simp), fun tm htm => ?_⟩
    have e26 := Evl.Ex.new (o := (.tup [.str "null"])) htm
    have m26 : Lx p H25_ (upd H25_ tm (.tup [.str "null"])) := .of l25.sc e26
    have l26 := l25.trans m26
    have ztm : Dz p (upd H25_ tm (.tup [.str "null"])) (.ref tm) (.tuple [.str "null"]) := Dz.tupN l25.sc htm (.cons (.str "null") .nil)
    replace w := LaidW.ext w m26
    replace sL3 := e26 _ _ sL3
    generalize (upd H25_ tm (.tup [.str "null"])) = H26_ at m26 e26 l26 w sL3 ztm
    refine ⟨le_line (by simp), fun tn htn => ?_⟩
    have e27 := Evl.Ex.new (o := (.tup [.ref tm])) htn
    have m27 : Lx p H26_ (upd H26_ tn (.tup [.ref tm])) := .of l26.sc e27
    have l27 := l26.trans m27
    have ztn : Dz p (upd H26_ tn (.tup [.ref tm])) (.ref tn) (.tuple [.tuple [.str "null"]]) := Dz.tupN l26.sc htn (.cons ztm .nil)
    replace w := LaidW.ext w m27
    replace sL3 := e27 _ _ sL3
    replace ztm := Dz.lx ztm m27
    generalize (upd H26_ tn (.tup [.ref tm])) = H27_ at m27 e27 l27 w sL3 ztm ztn
    replace w := LaidW.add w ztn
    refine ⟨le_line (by simp), fun to hto => ?_⟩
    have e28 := Evl.Ex.new (o := (.tup [.str "array", .int 0, .str "a", .int 10])) hto
    have m28 : Lx p H27_ (upd H27_ to (.tup [.str "array", .int 0, .str "a", .int 10])) := .of l27.sc e28
    have l28 := l27.trans m28
    have zto : Dz p (upd H27_ to (.tup [.str "array", .int 0, .str "a", .int 10])) (.ref to) (.tuple [.str "array", .int 0, .str "a", .int 10]) := Dz.tupN l27.sc hto (.cons (.str "array") (.cons (.int 0) (.cons (.str "a") (.cons (.int 10) .nil))))
    replace w := LaidW.ext w m28
    replace sL3 := e28 _ _ sL3
    generalize (upd H27_ to (.tup [.str "array", .int 0, .str "a", .int 10])) = H28_ at m28 e28 l28 w sL3 zto
    refine ⟨le_line (by simp), fun o1 ho1 => ?_⟩
    have e29 := Evl.Ex.new (o := (.lst [.ref to])) ho1
    have m29 : Lx p H28_ (upd H28_ o1 (.lst [.ref to])) := .of l28.sc e29
    have l29 := l28.trans m29
    have zo1 : Dz p (upd H28_ o1 (.lst [.ref to])) (.ref o1) (.list [.tuple [.str "array", .int 0, .str "a", .int 10]]) := Dz.lstN l28.sc ho1 (.cons zto .nil)
    replace w := LaidW.ext w m29
    replace sL3 := e29 _ _ sL3
    replace zto := Dz.lx zto m29
    generalize (upd H28_ o1 (.lst [.ref to])) = H29_ at m29 e29 l29 w sL3 zto zo1
    replace w := LaidW.add w zo1
    refine ⟨_, rfl, le_line (by simp), fun tp htp => ?_⟩
    have e30 := Evl.Ex.new (o := (.tup [.str "load", .int sz, .int 0, .int 0])) htp
    have m30 : Lx p H29_ (upd H29_ tp (.tup [.str "load", .int sz, .int 0, .int 0])) := .of l29.sc e30
    have l30 := l29.trans m30
    have ztp : Dz p (upd H29_ tp (.tup [.str "load", .int sz, .int 0, .int 0])) (.ref tp) (.tuple [.str "load", .int sz, .int 0, .int 0]) := Dz.tupN l29.sc htp (.cons (.str "load") (.cons (.int sz) (.cons (.int 0) (.cons (.int 0) .nil))))
    replace w := LaidW.ext w m30
    replace sL3 := e30 _ _ sL3
    generalize (upd H29_ tp (.tup [.str "load", .int sz, .int 0, .int 0])) = H30_ at m30 e30 l30 w sL3 ztp
    refine ⟨le_line (by simp), fun o2 ho2 => ?_⟩
    have e31 := Evl.Ex.new (o := (.lst [.ref tp])) ho2
    have m31 : Lx p H30_ (upd H30_ o2 (.lst [.ref tp])) := .of l30.sc e31
    have l31 := l30.trans m31
    have zo2 : Dz p (upd H30_ o2 (.lst [.ref tp])) (.ref o2) (.list [.tuple [.str "load", .int sz, .int 0, .int 0]]) := Dz.lstN l30.sc ho2 (.cons ztp .nil)
    replace w := LaidW.ext w m31
    replace sL3 := e31 _ _ sL3
    replace ztp := Dz.lx ztp m31
    generalize (upd H30_ o2 (.lst [.ref tp])) = H31_ at m31 e31 l31 w sL3 ztp zo2
    replace w := LaidW.add w zo2
    refine ⟨_, rfl, le_line (by simp), fun tq htq => ?_⟩
    have e32 := Evl.Ex.new (o := (.tup [.str "return", .int sz])) htq
    have m32 : Lx p H31_ (upd H31_ tq (.tup [.str "return", .int sz])) := .of l31.sc e32
    have l32 := l31.trans m32
    have ztq : Dz p (upd H31_ tq (.tup [.str "return", .int sz])) (.ref tq) (.tuple [.str "return", .int sz]) := Dz.tupN l31.sc htq (.cons (.str "return") (.cons (.int sz) .nil))
    replace w := LaidW.ext w m32
    replace sL3 := e32 _ _ sL3
    generalize (upd H31_ tq (.tup [.str "return", .int sz])) = H32_ at m32 e32 l32 w sL3 ztq
    refine ⟨le_line (by simp), fun o3 ho3 => ?_⟩
    have e33 := Evl.Ex.new (o := (.lst [.ref tq])) ho3
    have m33 : Lx p H32_ (upd H32_ o3 (.lst [.ref tq])) := .of l32.sc e33
    have l33 := l32.trans m33
    have zo3 : Dz p (upd H32_ o3 (.lst [.ref tq])) (.ref o3) (.list [.tuple [.str "return", .int sz]]) := Dz.lstN l32.sc ho3 (.cons ztq .nil)
    replace w := LaidW.ext w m33
    replace sL3 := e33 _ _ sL3
    replace ztq := Dz.lx ztq m33
    generalize (upd H32_ o3 (.lst [.ref tq])) = H33_ at m33 e33 l33 w sL3 ztq zo3
    replace w := LaidW.add w zo3
    refine ⟨le_line (by simp), fun L4 hL4 => ?_⟩
    have e34 := Evl.Ex.new (o := (.lst [.ref dd, .ref tn, .ref o1, .ref o2, .ref o3])) hL4
    have m34 : Lx p H33_ (upd H33_ L4 (.lst [.ref dd, .ref tn, .ref o1, .ref o2, .ref o3])) := .of l33.sc e34
    have l34 := l33.trans m34
    have sL4 : (upd H33_ L4 (.lst [.ref dd, .ref tn, .ref o1, .ref o2, .ref o3])) L4 = some (.lst [.ref dd, .ref tn, .ref o1, .ref o2, .ref o3]) := upd_same
    have npL4 := l33.sc.ne hL4
    replace w := LaidW.ext w m34
    replace sL3 := e34 _ _ sL3
    generalize (upd H33_ L4 (.lst [.ref dd, .ref tn, .ref o1, .ref o2, .ref o3])) = H34_ at m34 e34 l34 w sL3 sL4
    refine ⟨L3, L4, _, _, rfl, rfl, sL3, sL4, le_line (by simp), fun L5 hL5 => ?_⟩
    have e35 := Evl.Ex.new (o := (.lst (([.ref i1, .non, .str "code", .ref i4, .ref i5, .ref i6, .ref i7, .ref i8] ++ [.ref j1, .ref j2, .ref j3]) ++ [.ref dd, .ref tn, .ref o1, .ref o2, .ref o3]))) hL5
    have m35 : Lx p H34_ (upd H34_ L5 (.lst (([.ref i1, .non, .str "code", .ref i4, .ref i5, .ref i6, .ref i7, .ref i8] ++ [.ref j1, .ref j2, .ref j3]) ++ [.ref dd, .ref tn, .ref o1, .ref o2, .ref o3]))) := .of l34.sc e35
    have l35 := l34.trans m35
    have sL5 : (upd H34_ L5 (.lst (([.ref i1, .non, .str "code", .ref i4, .ref i5, .ref i6, .ref i7, .ref i8] ++ [.ref j1, .ref j2, .ref j3]) ++ [.ref dd, .ref tn, .ref o1, .ref o2, .ref o3]))) L5 = some (.lst (([.ref i1, .non, .str "code", .ref i4, .ref i5, .ref i6, .ref i7, .ref i8] ++ [.ref j1, .ref j2, .ref j3]) ++ [.ref dd, .ref tn, .ref o1, .ref o2, .ref o3])) := upd_same
    have npL5 := l34.sc.ne hL5
    replace w := LaidW.ext w m35
    replace sL3 := e35 _ _ sL3
    replace sL4 := e35 _ _ sL4
    generalize (upd H34_ L5 (.lst (([.ref i1, .non, .str "code", .ref i4, .ref i5, .ref i6, .ref i7, .ref i8] ++ [.ref j1, .ref j2, .ref j3]) ++ [.ref dd, .ref tn, .ref o1, .ref o2, .ref o3]))) = H35_ at m35 e35 l35 w sL3 sL4 sL5
    refine hQ L5 _ _ l35 ?_ sL5 rfl w.all
    cases hz : H L5 with
    | none => rfl
    | some o => have := l34.at hz npL5; rw [hL5] at this; cases this
end
end K03
set_option Elab.async false
set_option linter.all false
set_option maxRecDepth 100000
set_option maxHeartbeats 0
namespace EX2
open PySem PySem.Spec PyProof.Rows L2
/-- data apart from the source p and a list L that grows -/
abbrev Dz2 (p L : Addr) (H : Hp) (x : V) (d : PyData) : Prop := Dq (rm L (rm p H)) x d
section
variable {p L a : Addr} {H H' : Hp} {x : V} {d : PyData} {xs : List V} {ds : List PyData}
theorem Dz2.z (h : Dz2 p L H x d) : Dz p H x d := Dq.ext rm_ex h
theorem Dz2.lx (h : Dz2 p L H x d) (l : Lx p H H') : Dz2 p L H' x d := Dq.ext (ex_rm l.ex) h
theorem Dz2.mut (h : Dz2 p L H x d) (np : L ≠ p) (o : HO) : Dz2 p L (upd H L o) x d := by
  show Dq (rm L (rm p (upd H L o))) x d
  rw [rm_upd np, rm_same]
  exact h
theorem rm2_at {o : HO} (np : a ≠ p) (nL : a ≠ L) (h : H a = some o) : rm L (rm p H) a = some o := by rw [rm_ne nL, rm_ne np]; exact h
end
end EX2
namespace K03
open PySem PySem.Spec PyProof.Rows L2 EX2
abbrev sWrongs : Stmt := top 33
def wr0 : List PyData := [.none, .str "", .str "A", .int 5, .str "abcdefghi", .str "a[]"]
def wr1 : List PyData := [.none, .str "a", .list [.none], .list [.str "a[][]"], .list (List.replicate 5 (.str "a")), .dict [(.str "a", .int 1)], .list [.list [.str "a"]]]
def wr2 : List PyData := [.none, .str "", .str "[]", .str "a[][]", .int 5]
def wr3 (n : Int) : List PyData := [.none, .int 0, .int n, .int 11, .bool true, .str "3"]
def showB (d : PyData) : Bool := d.showable && (decide (d.shown.length ≤ 100000) && decide (d.depth ≤ 60))
theorem ShowD.of {d : PyData} (h : showB d = true) : ShowD d := by
  unfold showB at h
  simp only [Bool.and_eq_true, decide_eq_true_eq] at h
  exact ⟨h.1, h.2.1, h.2.2⟩
theorem wr0_ok : ∀ d ∈ wr0, nameD d = false ∧ okD d = true ∧ showB d = true := by decide +kernel
theorem wr1_ok : ∀ d ∈ wr1, kindsD d = false ∧ okD d = true ∧ showB d = true := by decide +kernel
theorem wr2_ok : ∀ d ∈ wr2, typeD d = false ∧ okD d = true ∧ showB d = true := by decide +kernel
theorem wr3_ok {n : Nat} (h : n ≤ 2) : ∀ d ∈ wr3 n, inR (1 + n) 10 d = false ∧ okD d = true ∧ showB d = true := by
  have : n = 0 ∨ n = 1 ∨ n = 2 := by omega
  rcases this with rfl | rfl | rfl <;> decide +kernel
theorem codes_ok {sz : Int} (h0 : 1 ≤ sz) (h1 : sz ≤ 6) : ∀ d ∈ codesD sz, codeD sz d = false ∧ okD d = true ∧ showB d = true := by
  have : sz = 1 ∨ sz = 2 ∨ sz = 3 ∨ sz = 4 ∨ sz = 5 ∨ sz = 6 := by omega
  rcases this with rfl | rfl | rfl | rfl | rfl | rfl <;> decide +kernel
end K03
set_option Elab.async false
set_option linter.all false
set_option maxRecDepth 100000
set_option maxHeartbeats 0
namespace K03
open PySem PySem.Spec PyProof.Rows L2 EX2
/-- a property of a method, read -/
def GetP (P : Program) (w : World) (K : PySem.W.Frag) (mg : Str → Option Value) (base : Heap) (x own : Str) : Prop :=
  PropOf K (He.ga K "Method") x (prA K "Method" x) (prG "Method" x K) ∧ ∃ fd, FnOk P w K mg base CX0 1 (prG "Method" x K) fd ["self"] (getSp (He.ga K "Method") own) ∧ Binds K fd ["self"] []
def Wrong5 (G : Hp) (n : Nat) (sz : Int) (x0 x1 x2 x3 x4 : V) (d0 d1 d2 d3 d4 : PyData) : Prop :=
  Dq G x0 d0 ∧ d0 ∈ wr0 ∧ Dq G x1 d1 ∧ d1 ∈ wr1 ∧ Dq G x2 d2 ∧ d2 ∈ wr2 ∧ Dq G x3 d3 ∧ d3 ∈ wr3 n ∧ Dw G x4 d4 ∧ d4 ∈ codesD sz
def spWrongs (C : Addr) : Sp := fun vs H Q _ => ∃ (p : Addr) (m n : V) (ps : List PyData) (r : V) (sz : Int) (cd : List PyData), vs = [.ref p, m] ∧ Sc p H ∧ MethAt C (rm p H) m n ps r (.int sz) cd ∧ ps.length ≤ 2 ∧ 1 ≤ sz ∧ sz ≤ 6 ∧
  ∀ (L : Addr) (x0 x1 x2 x3 x4 : V) (d0 d1 d2 d3 d4 : PyData) (H' : Hp), Lx p H H' → H L = none → H' L = some (.lst [x0, x1, x2, x3, x4]) → Wrong5 (rm p H') ps.length sz x0 x1 x2 x3 x4 d0 d1 d2 d3 d4 → Q (.ref L) H'
theorem flat_mem {xs : List V} {ds : List PyData} (h : ∀ G, DqAll G xs ds) {x : V} (hx : x ∈ xs) : ∃ d ∈ ds, ∀ G, Dq G x d := by
  obtain ⟨i, hi⟩ := List.mem_iff_getElem?.mp hx
  obtain ⟨d, hd, _⟩ := (h fun _ => none).get hi
  refine ⟨d, List.mem_of_getElem? hd, fun G => ?_⟩
  obtain ⟨d', hd', h'⟩ := (h G).get hi
  rw [hd] at hd'
  cases hd'
  exact h'
theorem all_mem {G : Hp} {xs : List V} {ds : List PyData} (h : DqAll G xs ds) {x : V} (hx : x ∈ xs) : ∃ d ∈ ds, Dq G x d := by
  obtain ⟨i, hi⟩ := List.mem_iff_getElem?.mp hx
  obtain ⟨d, hd, h⟩ := h.get hi
  exact ⟨d, List.mem_of_getElem? hd, h⟩
section
variable {P : Program} {w : World} {K : PySem.W.Frag} {mg : Str → Option Value} {base : Heap} {f : Addr} {fd : FuncData}
abbrev nWrongs : List Str := ["_law_source_here", "_law_method_here", "_law_found"]
theorem scWrongs : FnScope nWrongs ["_law_source_here", "_law_method_here"] (defScope sWrongs) := ⟨rfl, rfl, rfl, by decide +kernel, rfl, by decide +kernel, by decide +kernel⟩
theorem ok_wrongs (F : FnP K "_law_wrongs" sWrongs f fd) (D : Defs w K mg) (M : MethF K mg) (hC : ∃ f fd, mg "_law_codes" = some (.ref f) ∧ FnP K "_law_codes" sCodes f fd) (gp : GetP P w K mg base "params" "own_params") (gz : GetP P w K mg base "size" "own_size") :
    FnOk P w K mg base CX0 3 f fd ["_law_source_here", "_law_method_here"] (spWrongs (He.ga K "Method")) := by
  have T := D.t
  obtain ⟨fP, fdP, gP, FP⟩ := D.pick
  have GP : FnOk P w K mg base CX0 2 fP fdP ["_law_source_here", "_law_items"] spPick := ok_pick FP D
  have bP : Binds K fdP ["_law_source_here", "_law_items"] [] := FP.bindsN fun _ _ _ _ _ _ us hl => match us, hl with | [_, _], _ => rfl
  obtain ⟨fC, fdC, gC, FC⟩ := hC
  have GC : FnOk P w K mg base CX0 1 fC fdC ["_law_size"] spCodes := ok_codes FC D
  have bC : Binds K fdC ["_law_size"] [] := FC.bindsN fun _ _ _ _ _ _ us hl => match us, hl with | [_], _ => rfl
  obtain ⟨pp, fdp, Gp, bp⟩ := gp
  obtain ⟨pz, fdz, Gz, bz⟩ := gz
  refine F.ok scWrongs (fun vs H Q E h => ?_) (fun cdv A outer s H vs Q E hr h => ?_)
  · obtain ⟨p, m, n, ps, r, sz, cd, rfl, _⟩ := h
    rfl
  · obtain ⟨p, m, n, ps, r, sz, cd, rfl, hs, hm, hps, hz0, hz1, hQ⟩ := h
    refine ⟨_, PSs.nox (pss_cons (ps_set (i := 2) scWrongs.nd rfl (Or.inl rfl) (pe_lst (pa_cons (pe_call GP hr rfl gP FP.kp bP .nil pass0 (pa_cons (pv 0) (pa_cons (pe_lst (pa_cons pe_non (pa_cons pe_str (pa_cons pe_str (pa_cons pe_int (pa_cons pe_str (pa_cons pe_str pa_nil))))))) pa_nil))) pa_nil)))
      (pss_cons (ps_expr (pe_bm PySem.F.plainAttrs_list PySem.F.slot_list_append PySem.F.type_list_append mt_append (pv 2) (pa_cons (pe_call GP hr rfl gP FP.kp bP .nil pass0 (pa_cons (pv 0) (pa_cons (pe_lst (pa_cons pe_non (pa_cons pe_str (pa_cons (pe_lst (pa_cons pe_non pa_nil)) (pa_cons (pe_lst (pa_cons pe_str pa_nil)) (pa_cons (pe_op op_rep (pe_lst (pa_cons pe_str pa_nil)) pe_int) (pa_cons (pe_disp (pps_cons pe_str pe_int pps_nil) rfl rfl (fun z => by cases z) (by decide)) (pa_cons (pe_lst (pa_cons (pe_lst (pa_cons pe_str pa_nil)) pa_nil)) pa_nil)))))))) pa_nil))) pa_nil)))
      (pss_cons (ps_expr (pe_bm PySem.F.plainAttrs_list PySem.F.slot_list_append PySem.F.type_list_append mt_append (pv 2) (pa_cons (pe_call GP hr rfl gP FP.kp bP .nil pass0 (pa_cons (pv 0) (pa_cons (pe_lst (pa_cons pe_non (pa_cons pe_str (pa_cons pe_str (pa_cons pe_str (pa_cons pe_int pa_nil)))))) pa_nil))) pa_nil)))
      (pss_cons (ps_expr (pe_bm PySem.F.plainAttrs_list PySem.F.slot_list_append PySem.F.type_list_append mt_append (pv 2) (pa_cons (pe_call GP hr rfl gP FP.kp bP .nil pass0 (pa_cons (pv 0) (pa_cons (pe_lst (pa_cons pe_non (pa_cons pe_int (pa_cons (pe_callB call_len rfl T.len boot_len (pa_cons (pe_prop (pv 1) M.cl pp Gp (hr.mono (by decide)) bp .nil pass0 rfl) pa_nil)) (pa_cons pe_int (pa_cons pe_bl (pa_cons pe_str pa_nil))))))) pa_nil))) pa_nil)))
      (pss_one (ps_ret (pe_op op_cat (pv 2) (pe_lst (pa_cons (pe_call GP hr rfl gP FP.kp bP .nil pass0 (pa_cons (pv 0) (pa_cons (pe_call GC (hr.mono (by decide)) rfl gC FC.kp bC .nil pass0 (pa_cons (pe_prop (pv 1) M.cl pz Gz (hr.mono (by decide)) bz .nil pass0 rfl) pa_nil)) pa_nil))) pa_nil))))))))), ?_⟩
    obtain ⟨xm, dxm, pV, cV, rfl, hxm, hpV, hcV⟩ := hm.ex
    have nxm := rm_ne_of hxm
    rw [rm_ne nxm] at hxm
    -- the name
    refine ⟨_, rfl, le_line (by simp), fun a1 ha1 => ⟨p, a1, _, rfl, hs.ex (Evl.Ex.new ha1), hs.ne ha1, upd_same, by simp, by simp, fun x0 H2 hx0 lx2 => ⟨le_line (by simp), fun L hL => ?_⟩⟩⟩
    obtain ⟨d0, hd0, z0⟩ := flat_mem (ds := wr0) (fun G => .cons .non (.cons (.str "") (.cons (.str "A") (.cons (.int 5) (.cons (.str "abcdefghi") (.cons (.str "a[]") .nil)))))) hx0
    have lA := (Lx.of hs (Evl.Ex.new (o := .lst [.non, .str "", .str "A", .int 5, .str "abcdefghi", .str "a[]"]) ha1)).trans lx2
    have npL := lA.sc.ne hL
    have hLn : H L = none := by
      cases hz : H L with
      | none => rfl
      | some o => have := lA.at hz npL; rw [hL] at this; cases this
    have lB := lA.then (Evl.Ex.new (o := .lst [x0]) hL)
    have sL : (upd H2 L (.lst [x0])) L = some (.lst [x0]) := upd_same
    generalize (upd H2 L (.lst [x0])) = HB at lB sL
    clear lx2 lA ha1 hx0 hL
    -- the params
    refine ⟨_, rfl, .inl ⟨rfl, _, SqL.of sL⟩, _, rfl, le_line (by simp), fun b1 hb1 => ?_⟩
    have n1 : b1 ≠ L := (ne_of_none sL hb1).symm
    have np1 := lB.sc.ne hb1
    have e1 := Evl.Ex.new (o := .lst [.non]) hb1
    have m1 : Lx p HB (upd HB b1 (.lst [.non])) := .of lB.sc e1
    have y1 : Dz2 p L (upd HB b1 (.lst [.non])) (.ref b1) (.list [.none]) := .lst (rm2_at np1 n1 upd_same) (.cons .non .nil)
    replace sL := e1 _ _ sL
    have l1 := lB.trans m1
    generalize (upd HB b1 (.lst [.non])) = H1 at m1 y1 sL l1
    refine ⟨le_line (by simp), fun b2 hb2 => ?_⟩
    have n2 : b2 ≠ L := (ne_of_none sL hb2).symm
    have np2 := l1.sc.ne hb2
    have e2 := Evl.Ex.new (o := .lst [.str "a[][]"]) hb2
    have m2 : Lx p H1 (upd H1 b2 (.lst [.str "a[][]"])) := .of l1.sc e2
    have y2 : Dz2 p L (upd H1 b2 (.lst [.str "a[][]"])) (.ref b2) (.list [.str "a[][]"]) := .lst (rm2_at np2 n2 upd_same) (.cons (.str "a[][]") .nil)
    replace sL := e2 _ _ sL
    replace y1 := y1.lx m2
    have l2 := l1.trans m2
    generalize (upd H1 b2 (.lst [.str "a[][]"])) = H2' at m2 y1 y2 sL l2
    refine ⟨le_line (by simp), fun b3 hb3 => ?_⟩
    have e3 := Evl.Ex.new (o := .lst [.str "a"]) hb3
    have m3 : Lx p H2' (upd H2' b3 (.lst [.str "a"])) := .of l2.sc e3
    have s3 : (upd H2' b3 (.lst [.str "a"])) b3 = some (.lst [.str "a"]) := upd_same
    replace sL := e3 _ _ sL
    replace y1 := y1.lx m3
    replace y2 := y2.lx m3
    have l3 := l2.trans m3
    generalize (upd H2' b3 (.lst [.str "a"])) = H3 at m3 y1 y2 sL s3 l3
    refine ⟨b3, 5, [.str "a"], rfl, rfl, s3, by decide, by decide, le_line (by simp), fun b4 hb4 => ?_⟩
    have n4 : b4 ≠ L := (ne_of_none sL hb4).symm
    have np4 := l3.sc.ne hb4
    have e4 := Evl.Ex.new (o := .lst (List.replicate (5 : Int).toNat [.str "a"]).flatten) hb4
    have m4 : Lx p H3 (upd H3 b4 (.lst (List.replicate (5 : Int).toNat [.str "a"]).flatten)) := .of l3.sc e4
    have y4 : Dz2 p L (upd H3 b4 (.lst (List.replicate (5 : Int).toNat [.str "a"]).flatten)) (.ref b4) (.list (List.replicate 5 (.str "a"))) := .lst (xs := (List.replicate (5 : Int).toNat [V.str "a"]).flatten) (rm2_at np4 n4 upd_same) (.cons (.str "a") (.cons (.str "a") (.cons (.str "a") (.cons (.str "a") (.cons (.str "a") .nil)))))
    replace sL := e4 _ _ sL
    replace y1 := y1.lx m4
    replace y2 := y2.lx m4
    have l4 := l3.trans m4
    generalize (upd H3 b4 (.lst (List.replicate (5 : Int).toNat [.str "a"]).flatten)) = H4 at m4 y1 y2 y4 sL l4
    refine fun b5 hb5 => ⟨upd_same, [(.inr "a", .int 1)], rfl, by decide, ?_⟩
    have n5 : b5 ≠ L := (ne_of_none sL hb5).symm
    have np5 := l4.sc.ne hb5
    have e5 : Evl.Ex H4 (upd (upd H4 b5 (.dK [])) b5 (.dK (mergeK [] [(.inr "a", .int 1)]))) := (Evl.Ex.new hb5).mut hb5
    have m5 := Lx.of l4.sc e5
    have y5 : Dz2 p L (upd (upd H4 b5 (.dK [])) b5 (.dK (mergeK [] [(.inr "a", .int 1)]))) (.ref b5) (.dict [(.str "a", .int 1)]) := .dk (kvs := [(.inr "a", .int 1)]) (rm2_at np5 n5 upd_same) (.cons (.int 1) .nil)
    replace sL := e5 _ _ sL
    replace y1 := y1.lx m5
    replace y2 := y2.lx m5
    replace y4 := y4.lx m5
    have l5 := l4.trans m5
    generalize (upd (upd H4 b5 (.dK [])) b5 (.dK (mergeK [] [(.inr "a", .int 1)]))) = H5 at m5 y1 y2 y4 y5 sL l5
    refine ⟨le_line (by simp), fun b6 hb6 => ?_⟩
    have n6 : b6 ≠ L := (ne_of_none sL hb6).symm
    have np6 := l5.sc.ne hb6
    have e6 := Evl.Ex.new (o := .lst [.str "a"]) hb6
    have m6 : Lx p H5 (upd H5 b6 (.lst [.str "a"])) := .of l5.sc e6
    have y6 : Dz2 p L (upd H5 b6 (.lst [.str "a"])) (.ref b6) (.list [.str "a"]) := .lst (rm2_at np6 n6 upd_same) (.cons (.str "a") .nil)
    replace sL := e6 _ _ sL
    replace y1 := y1.lx m6
    replace y2 := y2.lx m6
    replace y4 := y4.lx m6
    replace y5 := y5.lx m6
    have l6 := l5.trans m6
    generalize (upd H5 b6 (.lst [.str "a"])) = H6 at m6 y1 y2 y4 y5 y6 sL l6
    refine ⟨le_line (by simp), fun b7 hb7 => ?_⟩
    have n7 : b7 ≠ L := (ne_of_none sL hb7).symm
    have np7 := l6.sc.ne hb7
    have e7 := Evl.Ex.new (o := .lst [.ref b6]) hb7
    have m7 : Lx p H6 (upd H6 b7 (.lst [.ref b6])) := .of l6.sc e7
    have y7 : Dz2 p L (upd H6 b7 (.lst [.ref b6])) (.ref b7) (.list [.list [.str "a"]]) := .lst (rm2_at np7 n7 upd_same) (.cons (y6.lx m7) .nil)
    replace sL := e7 _ _ sL
    replace y1 := y1.lx m7
    replace y2 := y2.lx m7
    replace y4 := y4.lx m7
    replace y5 := y5.lx m7
    have l7 := l6.trans m7
    generalize (upd H6 b7 (.lst [.ref b6])) = H7 at m7 y1 y2 y4 y5 y7 sL l7
    refine ⟨le_line (by simp), fun b8 hb8 => ?_⟩
    have np8 := l7.sc.ne hb8
    have e8 := Evl.Ex.new (o := .lst [.non, .str "a", .ref b1, .ref b2, .ref b4, .ref b5, .ref b7]) hb8
    refine ⟨p, b8, _, rfl, l7.sc.ex e8, np8, upd_same, by simp, by simp, fun x1 H9 hx1 lx9 => ?_⟩
    have mA : Lx p H7 H9 := (Lx.of l7.sc e8).trans lx9
    obtain ⟨d1, hd1, z1⟩ := all_mem (G := rm L (rm p H7)) (ds := wr1) (.cons .non (.cons (.str "a") (.cons y1 (.cons y2 (.cons y4 (.cons y5 (.cons y7 .nil))))))) hx1
    replace z1 : Dz2 p L H9 x1 d1 := Dz2.lx z1 mA
    replace sL := mA.at sL npL
    have l9 := l7.trans mA
    refine ⟨L, [x0], x1, rfl, rfl, sL, le_line (by simp), ?_⟩
    have lC : Lx p H (upd H9 L (.lst ([x0] ++ [x1]))) := l9.mut npL hLn
    replace z1 := z1.mut npL (.lst ([x0] ++ [x1]))
    replace sL : (upd H9 L (.lst ([x0] ++ [x1]))) L = some (.lst ([x0] ++ [x1])) := upd_same
    generalize (upd H9 L (.lst ([x0] ++ [x1]))) = HC at lC z1 sL
    clear m1 m2 m3 m4 m5 m6 m7 mA lx9 l1 l2 l3 l4 l5 l6 l7 l9 y1 y2 y4 y5 y6 y7 e1 e2 e3 e4 e5 e6 e7 e8 hx1 lB
    -- the result
    refine ⟨_, rfl, .inl ⟨rfl, _, SqL.of sL⟩, _, rfl, le_line (by simp), fun c1 hc1 => ?_⟩
    have e1 := Evl.Ex.new (o := .lst [.non, .str "", .str "[]", .str "a[][]", .int 5]) hc1
    refine ⟨p, c1, _, rfl, lC.sc.ex e1, lC.sc.ne hc1, upd_same, by simp, by simp, fun x2 HD hx2 lxd => ?_⟩
    have mA : Lx p HC HD := (Lx.of lC.sc e1).trans lxd
    obtain ⟨d2, hd2, z2⟩ := flat_mem (ds := wr2) (fun G => .cons .non (.cons (.str "") (.cons (.str "[]") (.cons (.str "a[][]") (.cons (.int 5) .nil))))) hx2
    replace z1 := z1.lx mA
    replace sL := mA.at sL npL
    have lD := lC.trans mA
    refine ⟨L, _, x2, rfl, rfl, sL, le_line (by simp), ?_⟩
    have lE : Lx p H (upd HD L (.lst (([x0] ++ [x1]) ++ [x2]))) := lD.mut npL hLn
    replace z1 := z1.mut npL (.lst (([x0] ++ [x1]) ++ [x2]))
    replace sL : (upd HD L (.lst (([x0] ++ [x1]) ++ [x2]))) L = some (.lst (([x0] ++ [x1]) ++ [x2])) := upd_same
    generalize (upd HD L (.lst (([x0] ++ [x1]) ++ [x2]))) = HE at lE z1 sL
    clear mA e1 lxd lC lD hx2
    -- the size
    have hxE := lE.at hxm nxm
    obtain ⟨pa, pxs, rfl, hpa, hpall⟩ := (hpV.ext lE.ex).tupI
    have hpl := DqAll.length hpall
    rw [rm_ne (rm_ne_of hpa)] at hpa
    refine ⟨_, rfl, .inl ⟨rfl, _, SqL.of sL⟩, _, rfl, _, rfl, xm, dxm, _, rfl, hxE, xm, dxm, _, .ref pa, rfl, hxE, rfl, _, _, rfl, .inr ⟨_, SqT.of hpa, rfl⟩, le_line (by simp), fun c2 hc2 => ?_⟩
    have e1 := Evl.Ex.new (o := .lst [.non, .int 0, .int (pxs.length : Int), .int 11, .bl true, .str "3"]) hc2
    refine ⟨p, c2, _, rfl, lE.sc.ex e1, lE.sc.ne hc2, upd_same, by simp, by simp, fun x3 HF hx3 lxf => ?_⟩
    have mA : Lx p HE HF := (Lx.of lE.sc e1).trans lxf
    obtain ⟨d3, hd3, z3⟩ := flat_mem (ds := wr3 pxs.length) (fun G => .cons .non (.cons (.int 0) (.cons (.int _) (.cons (.int 11) (.cons (.bl true) (.cons (.str "3") .nil)))))) hx3
    rw [hpl] at hd3
    replace z1 := z1.lx mA
    replace sL := mA.at sL npL
    have lF := lE.trans mA
    refine ⟨L, _, x3, rfl, rfl, sL, le_line (by simp), ?_⟩
    have lG : Lx p H (upd HF L (.lst ((([x0] ++ [x1]) ++ [x2]) ++ [x3]))) := lF.mut npL hLn
    replace z1 := z1.mut npL (.lst ((([x0] ++ [x1]) ++ [x2]) ++ [x3]))
    replace sL : (upd HF L (.lst ((([x0] ++ [x1]) ++ [x2]) ++ [x3]))) L = some (.lst ((([x0] ++ [x1]) ++ [x2]) ++ [x3])) := upd_same
    generalize (upd HF L (.lst ((([x0] ++ [x1]) ++ [x2]) ++ [x3]))) = HG at lG z1 sL
    clear mA e1 lxf lE lF hx3
    -- the code
    have hxG := lG.at hxm nxm
    refine ⟨_, rfl, _, rfl, _, rfl, xm, dxm, _, rfl, hxG, xm, dxm, _, .int sz, rfl, hxG, rfl, p, sz, rfl, lG.sc, fun LC xs HI lx1 hLC sLC hlen hw => ?_⟩
    refine ⟨p, LC, xs, rfl, lx1.sc, lG.sc.ne hLC, sLC, by rintro rfl; simp at hlen, by omega, fun x4 HJ hx4 lx2 => ⟨le_line (by simp), fun l1 hl1 => ?_⟩⟩
    obtain ⟨d4, hd4, z4⟩ := hw x4 hx4
    have e1 := Evl.Ex.new (o := .lst [x4]) hl1
    have mA : Lx p HG (upd HJ l1 (.lst [x4])) := (lx1.trans lx2).then e1
    have lH := lG.trans mA
    refine ⟨L, l1, _, _, rfl, rfl, mA.at sL npL, upd_same, le_line (by simp), fun LF hLF => ?_⟩
    have e2 := Evl.Ex.new (o := .lst (((([x0] ++ [x1]) ++ [x2]) ++ [x3]) ++ [x4])) hLF
    have mB := mA.then e2
    refine hQ LF x0 x1 x2 x3 x4 d0 d1 d2 d3 d4 _ (lG.trans mB) ?_ upd_same ⟨z0 _, hd0, (z1.lx mB).z, hd1, z2 _, hd2, z3 _, hd3, z4.ext (lx2.then (e1.trans e2)).ex, hd4⟩
    cases hz : H LF with
    | none => rfl
    | some o => have := lH.at hz (lH.sc.ne hLF); rw [hLF] at this; cases this
end
end K03
set_option Elab.async false
set_option linter.all false
set_option maxRecDepth 100000
set_option maxHeartbeats 0
namespace EX2
open PySem PySem.Spec PyProof.Rows L2
theorem depthAll_le {k : Nat} : ∀ {ds : List PyData}, (∀ d ∈ ds, d.depth ≤ k) → PyData.depthAll ds ≤ k
  | [], _ => Nat.zero_le _
  | d :: ds, h => by
    rw [PyData.depthAll]
    exact Nat.max_le.mpr ⟨h d List.mem_cons_self, depthAll_le fun e he => h e (List.mem_cons_of_mem _ he)⟩
end EX2
namespace K03
open PySem PySem.Spec PyProof.Rows L2 EX2
mutual
theorem lay_of : ∀ d : PyData, okD d = true → noL d = true → d.canLay0 = true
  | .none, _, _ => rfl
  | .bool _, _, _ => rfl
  | .int _, _, _ => rfl
  | .str z, h, _ => by
    simp only [okD, Bool.and_eq_true] at h
    exact h.2
  | .tuple xs, h, n => layAll_of xs h n
  | .list _, _, n => by cases n
  | .dict _, _, n => by cases n
theorem layAll_of : ∀ ds : List PyData, okAll ds = true → noLs ds = true → PyData.canLayAll0 ds = true
  | [], _, _ => rfl
  | d :: ds, h, n => by
    simp only [okAll, noLs, Bool.and_eq_true] at h n
    rw [PyData.canLayAll0, lay_of d h.1 n.1, layAll_of ds h.2 n.2]
    rfl
end
theorem strs_depth {ks : List PyData} (h : ∀ k ∈ ks, ∃ z ∈ tyS, k = .str z) : PyData.depthAll ks ≤ 0 := depthAll_le fun d hd => by obtain ⟨z, _, rfl⟩ := h d hd; exact Nat.le_refl _
theorem ins_depth {m n : Int} {d : PyData} (h : InsP m n d) : d.depth ≤ 2 := by
  cases h with
  | call r s c fn ks t as r0 r1 s0 s1 hc hp =>
    have h1 : PyData.depthAll ks ≤ 0 := strs_depth hp.ks
    have h2 : PyData.depthAll as ≤ 0 := depthAll_le fun d hd => by obtain ⟨i, rfl, _⟩ := hp.as d hd; exact Nat.le_refl _
    simp [PyData.depth, PyData.depthAll]
    omega
  | ask r s c fn ks t as r0 r1 s0 s1 hc hp =>
    have h1 : PyData.depthAll ks ≤ 0 := strs_depth hp.ks
    have h2 : PyData.depthAll as ≤ 0 := depthAll_le fun d hd => by obtain ⟨i, rfl, _⟩ := hp.as d hd; exact Nat.le_refl _
    simp [PyData.depth, PyData.depthAll]
    omega
  | _ => simp [PyData.depth, PyData.depthAll]
/-- the parts of a method that is made -/
structure PartP (n : Str) (ps : List PyData) (r : Str) (sz : Int) (cd : List PyData) : Prop where
  nm : isNm n = true ∧ n.length ≤ 10 ∧ PyData.strOk n = true
  rt : typeD (.str r) = true ∧ r.length ≤ 10 ∧ PyData.strOk r = true
  pl : ps.length ≤ 2
  pt : ∀ k ∈ ps, ∃ z ∈ tyS, k = .str z
  s0 : 1 + (ps.length : Int) ≤ sz
  s1 : sz ≤ 10
  c0 : 0 < cd.length
  c1 : cd.length ≤ 15
  ci : ∀ d ∈ cd, InsP sz cd.length d
def dataM (n : Str) (ps : List PyData) (r : Str) (sz : Int) (cd : List PyData) : List PyData := [.str n, .tuple ps, .str r, .int sz, .tuple cd]
def dataL (n : Str) (ps : List PyData) (r : Str) (sz : Int) (cd : List PyData) : List PyData := [.str n, .list ps, .str r, .int sz, .list cd]
section
variable {n r : Str} {ps cd : List PyData} {sz : Int}
theorem PartP.okp (h : PartP n ps r sz cd) : okAll ps = true := okAll_of fun k hk => by obtain ⟨z, hz, rfl⟩ := h.pt k hk; exact ok_str ⟨by have := (tyS_ok z hz).2.1; omega, (tyS_ok z hz).2.2⟩
theorem PartP.nop (h : PartP n ps r sz cd) : noLs ps = true := noLs_of fun k hk => by obtain ⟨z, hz, rfl⟩ := h.pt k hk; rfl
theorem PartP.okc (h : PartP n ps r sz cd) : okAll cd = true := okAll_of fun d hd => (h.ci d hd).ok.1
theorem PartP.noc (h : PartP n ps r sz cd) : noLs cd = true := noLs_of fun d hd => (h.ci d hd).ok.2
theorem PartP.lay (h : PartP n ps r sz cd) : PyData.canLayAll0 (dataM n ps r sz cd) = true := by
  simp only [dataM, PyData.canLayAll0, PyData.canLay0, h.nm.2.2, h.rt.2.2, layAll_of ps h.okp h.nop, layAll_of cd h.okc h.noc]
  rfl
theorem PartP.dep (h : PartP n ps r sz cd) : (PyData.tuple (dataM n ps r sz cd)).depth ≤ 5 := by
  have h1 := strs_depth h.pt
  have h2 : PyData.depthAll cd ≤ 2 := depthAll_le fun d hd => ins_depth (h.ci d hd)
  simp [dataM, PyData.depth, PyData.depthAll]
  omega
theorem PartP.shaped (h : PartP n ps r sz cd) : SeqAt.shaped (.tuple (dataM n ps r sz cd)) = true := by
  unfold SeqAt.shaped
  rw [Bool.and_eq_true]
  exact ⟨h.lay, decide_eq_true (Nat.le_trans h.dep (by decide))⟩
theorem PartP.shapedL (h : PartP n ps r sz cd) : SeqAt.shaped (.list (dataM n ps r sz cd)) = true := by
  unfold SeqAt.shaped
  rw [Bool.and_eq_true]
  exact ⟨h.lay, decide_eq_true (Nat.le_trans h.dep (by decide))⟩
theorem PartP.codes (h : PartP n ps r sz cd) {dc : PyData} (ic : itemsOf dc = cd) (kc : seqD 40 dc = true) : codeD sz dc = true := by
  have c0 := h.c0
  have c1 := h.c1
  unfold codeD
  rw [kc, ic, decide_eq_true (by omega), Bool.true_and, Bool.true_and, Bool.and_eq_true]
  refine ⟨List.all_eq_true.mpr fun d hd => (h.ci d hd).ins h.s1 (by omega), List.all_eq_true.mpr fun d hd => ?_⟩
  unfold codeOk
  rw [Bool.and_eq_true]
  refine ⟨List.all_eq_true.mpr fun e he => ?_, List.all_eq_true.mpr fun e he => ?_⟩
  · obtain ⟨i, rfl, i0, i1⟩ := (h.ci d hd).draw e he
    exact decide_eq_true i1
  · obtain ⟨i, rfl, i0, i1⟩ := (h.ci d hd).tgt e he
    exact decide_eq_true i1
theorem PartP.ok {H : Hp} {p c : V} (h : PartP n ps r sz cd) (hp : Dq H p (.list ps)) (hc : Dq H c (.list cd)) : PartsOk H (.str n) p (.str r) (.int sz) c (.str n) (.list ps) (.str r) sz (.list cd) where
  hn := .str n
  hp := hp
  hr := .str r
  hz := rfl
  hc := hc
  on := ok_str h.nm.2
  op := h.okp
  or := ok_str h.rt.2
  oc := h.okc
  kn := h.nm.1
  kp := decide_eq_true (by show (ps.length : Int) ≤ 4; have := h.pl; omega)
  kt := List.all_eq_true.mpr fun k hk => by obtain ⟨z, hz, rfl⟩ := h.pt k hk; exact (tyS_ok z hz).1
  kr := h.rt.1
  kz := by
    rw [inR_int]
    have h0 := h.s0
    have h1 := h.s1
    show (decide (1 + (ps.length : Int) ≤ sz) && decide (sz ≤ 10)) = true
    simp
    omega
  kc := h.codes rfl (decide_eq_true (by show (cd.length : Int) ≤ 40; have := h.c1; omega))
theorem MethP.part (h : MethP ps r sz cd) : PartP "m" ps r sz cd := ⟨⟨by decide, by decide, by decide +kernel⟩, ⟨(tyS_ok r h.rt).1, by have := (tyS_ok r h.rt).2.1; omega, (tyS_ok r h.rt).2.2⟩, h.pl, h.pt, h.s0, by have := h.s1; omega, h.c0, h.c1, h.ci⟩
end
theorem InsP.more {m m' n : Int} {d : PyData} (h : InsP m n d) (hm : m ≤ m') : InsP m' n d := by
  cases h with
  | new r c r0 r1 hc => exact .new r c r0 (by omega) hc
  | array r c k r0 r1 hc k0 k1 => exact .array r c k r0 (by omega) hc k0 k1
  | null r r0 r1 => exact .null r r0 (by omega)
  | move r s r0 r1 s0 s1 => exact .move r s r0 (by omega) s0 (by omega)
  | get r s c t r0 r1 s0 s1 hc ht => exact .get r s c t r0 (by omega) s0 (by omega) hc ht
  | put r s c t r0 r1 s0 s1 hc ht => exact .put r s c t r0 (by omega) s0 (by omega) hc ht
  | call r s c fn ks t as r0 r1 s0 s1 hc hp => exact .call r s c fn ks t as r0 (by omega) s0 (by omega) hc { hp with as := fun d hd => by obtain ⟨i, e, h0, h1⟩ := hp.as d hd; exact ⟨i, e, h0, by omega⟩ }
  | ask r s c fn ks t as r0 r1 s0 s1 hc hp => exact .ask r s c fn ks t as r0 (by omega) s0 (by omega) hc { hp with as := fun d hd => by obtain ⟨i, e, h0, h1⟩ := hp.as d hd; exact ⟨i, e, h0, by omega⟩ }
  | cast r s c r0 r1 s0 s1 hc => exact .cast r s c r0 (by omega) s0 (by omega) hc
  | load r s r0 r1 s0 s1 => exact .load r s r0 (by omega) s0 (by omega)
  | store r s r0 r1 s0 s1 => exact .store r s r0 (by omega) s0 (by omega)
  | jump t t0 t1 => exact .jump t t0 t1
  | ifnull r t r0 r1 t0 t1 => exact .ifnull r t r0 (by omega) t0 t1
  | ifis r c t r0 r1 hc t0 t1 => exact .ifis r c t r0 (by omega) hc t0 t1
  | choose t t0 t1 => exact .choose t t0 t1
  | tell r r0 r1 => exact .tell r r0 (by omega)
  | ret r r0 r1 => exact .ret r r0 (by omega)
end K03
set_option Elab.async false
set_option linter.all false
set_option maxRecDepth 100000
set_option maxHeartbeats 0
namespace K03
open PySem PySem.Spec PyProof.Rows L2 EX2
abbrev sOthers : Stmt := top 34
def spOthers (C : Addr) : Sp := fun vs H Q _ => ∃ (m : V) (R : Addr) (pV cV : V) (ps : List PyData) (r : Str) (sz : Int) (cd : List PyData), vs = [m, .ref R] ∧ H R = some (.lst [.str "m", pV, .str r, .int sz, cV]) ∧ Dq H pV (.list ps) ∧ Dq H cV (.list cd) ∧
  MethD C H m (.tuple (dataM "m" ps r sz cd)) ∧ PartP "m" ps r sz cd ∧ sz ≤ 6 ∧ ∀ H', Evl.Ex H H' → Q (.bl true) H'
section
variable {P : Program} {w : World} {K : PySem.W.Frag} {mg : Str → Option Value} {base : Heap} {f : Addr} {fd : FuncData}
abbrev nOthers : List Str := ["_law_method_here", "_law_right", "_law_others", "_law_at", "_law_parts"]
theorem scOthers : FnScope nOthers ["_law_method_here", "_law_right"] (defScope sOthers) := ⟨rfl, rfl, rfl, by decide +kernel, rfl, by decide +kernel, by decide +kernel⟩
theorem ok_others (F : FnP K "_law_others_right" sOthers f fd) (D : Defs w K mg) (M : MethF K mg) (XF : ExcF P w K mg base) (IF : InsF K (He.ga K "Method")) : FnOk P w K mg base CX0 8 f fd ["_law_method_here", "_law_right"] (spOthers (He.ga K "Method")) := by
  have T := D.t
  obtain ⟨fdI, FI⟩ := M.init
  have GI : FnOk P w K mg base (L2.CX P w) 6 _ fdI ["self", "name", "params", "result", "size", "code"] (spInit (He.ga K "Method")) := (ok_initX FI D M XF).imp spInit_X
  have bI : Binds K fdI ["self", "name", "params", "result", "size", "code"] [] := FI.bindsN fun _ _ _ _ _ _ us hl => match us, hl with | [_, _, _, _, _, _], _ => rfl
  obtain ⟨fdQ, FQ⟩ := M.eq
  have GQ : FnOk P w K mg base CX0 2 _ fdQ ["self", "other"] (spEqM (He.ga K "Method")) := ok_eqM FQ D M IF
  have bQ : Binds K fdQ ["self", "other"] [] := FunD.bindsN FQ fun _ _ _ _ _ _ us hl => match us, hl with | [_, _], _ => rfl
  refine F.ok scOthers (fun vs H Q E h => ?_) (fun cdv A outer s H vs Q E hr h => ?_)
  · obtain ⟨m, R, pV, cV, ps, r, sz, cd, rfl, _⟩ := h
    rfl
  · obtain ⟨m, R, pV, cV, ps, r, sz, cd, rfl, hR, hp, hc, hm, pp, hz6, hQ⟩ := h
    refine ⟨_, PSs.nox (pss_cons (ps_set (i := 2) scOthers.nd rfl (Or.inl rfl) (pe_lst (pa_cons pe_str (pa_cons (pe_ix ix_list (pv 1) pe_int (fun _ _ => rfl)) (pa_cons pe_str (pa_cons (pe_callB (call_min2 rfl) rfl T.min boot_min (pa_cons pe_int (pa_cons (pe_op op_add (pe_ix ix_list (pv 1) pe_int (fun _ _ => rfl)) pe_int) pa_nil))) (pa_cons (pe_lst (pa_cons (pe_tup (pa_cons pe_str (pa_cons pe_int pa_nil))) pa_nil)) pa_nil)))))))
      (pss_cons (ps_for PassesOwn.never rfl (pi_list (pe_lst (pa_cons pe_int (pa_cons pe_int (pa_cons pe_int (pa_cons pe_int pa_nil)))))) (pg_name (i := 3) scOthers.nd rfl (Or.inl rfl))
        (pss_one (ps_if (pt_cmpR (op_neD hr.units) (pe_ix ix_list (pv 2) (pv 3) (fun _ _ => rfl)) (pe_ix ix_list (pv 1) (pv 3) (fun _ _ => rfl)) (nomark _))
          (Evl.pss_cut (ps_set (i := 4) scOthers.nd rfl (Or.inl rfl) (pe_op op_cat (pe_op op_cat (pe_slice sl_list (pv 1) po_none (po_some (pv 3))) (pe_lst (pa_cons (pe_ix ix_list (pv 2) (pv 3) (fun _ _ => rfl)) pa_nil))) (pe_slice sl_list (pv 1) (po_some (pe_op op_add (pv 3) pe_int)) po_none)))
          (pss_one (ps_if (pt_cmpR (op_eqI GQ M.em.at_ M.em.fn bQ (hr.mono (by decide))) (pe_make M.mkr GI hr rfl M.hm bI .nil passL (pa_cons (pe_ix ix_list (pv 4) pe_int (fun _ _ => rfl)) (pa_cons (pe_ix ix_list (pv 4) pe_int (fun _ _ => rfl)) (pa_cons (pe_ix ix_list (pv 4) pe_int (fun _ _ => rfl)) (pa_cons (pe_ix ix_list (pv 4) pe_int (fun _ _ => rfl)) (pa_cons (pe_ix ix_list (pv 4) pe_int (fun _ _ => rfl)) pa_nil)))))) (pv 0) (nomark _))
            (pss_one (ps_ret pe_bl))
            pss_nil)))
          pss_nil)))
      (pss_one (ps_ret pe_bl)))), ?_⟩
    have hmn : (if sz + 1 < (10 : Int) then sz + 1 else 10) = sz + 1 := if_pos (by omega)
    refine ⟨_, rfl, R, _, 1, pV, rfl, rfl, SqL.of hR, atI_nat (j := 1) rfl, _, rfl, R, _, 3, .int sz, rfl, rfl, SqL.of hR, atI_nat (j := 3) rfl, _, _, rfl, rfl, _, _, rfl, le_line (by simp), fun t ht => ⟨le_line (by simp), fun J hJ => ⟨le_line (by simp), fun O hO => ?_⟩⟩⟩
    rw [hmn]
    have e1 := Evl.Ex.new (o := .tup [.str "jump", .int 0]) ht
    have e2 := Evl.Ex.new (o := .lst [.ref t]) hJ
    have zJ : Dq (upd (upd H t (.tup [.str "jump", .int 0])) J (.lst [.ref t])) (.ref J) (.list [.tuple [.str "jump", .int 0]]) := .lst upd_same (.cons (.tup (e2 _ _ upd_same) (.cons (.str "jump") (.cons (.int 0) .nil))) .nil)
    have e3 := Evl.Ex.new (o := .lst [.str "other", pV, .str "zz", .int (sz + 1), .ref J]) hO
    have zJ := zJ.ext e3
    have eA := (e1.trans e2).trans e3
    have sO : (upd (upd (upd H t (.tup [.str "jump", .int 0])) J (.lst [.ref t])) O (.lst [.str "other", pV, .str "zz", .int (sz + 1), .ref J])) O = some (.lst [.str "other", pV, .str "zz", .int (sz + 1), .ref J]) := upd_same
    generalize (upd (upd (upd H t (.tup [.str "jump", .int 0])) J (.lst [.ref t])) O (.lst [.str "other", pV, .str "zz", .int (sz + 1), .ref J])) = HA at eA zJ sO
    refine ⟨le_line (by simp), fun L hL => ?_⟩
    have e4 := Evl.Ex.new (o := .lst [.int 0, .int 2, .int 3, .int 4]) hL
    refine ⟨L, rfl, ⟨_, SqL.of upd_same⟩, ?_⟩
    have sL : (upd HA L (.lst [.int 0, .int 2, .int 3, .int 4])) L = some (.lst [.int 0, .int 2, .int 3, .int 4]) := upd_same
    have eB := eA.trans e4
    have zJ := zJ.ext e4
    have sO := e4 _ _ sO
    generalize (upd HA L (.lst [.int 0, .int 2, .int 3, .int 4])) = HB at eB zJ sO sL
    refine for_it (walk_list (xs := [.int 0, .int 2, .int 3, .int 4])) (fun j σ H5 => Evl.Ex HB H5 ∧ ∃ v3 v4, σ = [some m, some (.ref R), some (.ref O), v3, v4]) ⟨Evl.Ex.refl _, none, none, rfl⟩ (fun _ _ _ _ h => Evl.ex_l h.1 (SqL.of sL)) ?_ ?_
    · rintro j x σ HX HC hj ⟨eC, v3, v4, rfl⟩ ⟨rfl, hx⟩
      have e0C := eB.trans eC
      have sR := e0C _ _ hR
      have sO := eC _ _ sO
      have hpC := hp.ext e0C
      have hcC := hc.ext e0C
      have zJ := zJ.ext eC
      have layL : PyData.canLayAll0 (dataM "m" ps r sz cd) = true := pp.lay
      -- what stands at the place
      obtain ⟨k, rfl, xo, xr, dO, dR, ho, hr', hdo, hdr, so, sr, n', r', sz', cV', cd', hpart, hcv, hset, hcmp⟩ : ∃ (k : Nat), x = .int (k : Int) ∧ ∃ (xo xr : V) (dO dR : PyData), ([.str "other", pV, .str "zz", .int (sz + 1), .ref J] : List V)[k]? = some xo ∧ ([.str "m", pV, .str r, .int sz, cV] : List V)[k]? = some xr ∧ Dp K HC xo dO ∧ Dp K HC xr dR ∧ SeqAt.shaped dO = true ∧ SeqAt.shaped dR = true ∧
          ∃ (n' r' : Str) (sz' : Int) (cV' : V) (cd' : List PyData), PartP n' ps r' sz' cd' ∧ Dq HC cV' (.list cd') ∧ (cutV [.str "m", pV, .str r, .int sz, cV] none (some (k : Int)) ++ [xo]) ++ cutV [.str "m", pV, .str r, .int sz, cV] (some ((k : Int) + 1)) none = [.str n', pV, .str r', .int sz', cV'] ∧ (PyData.eqv dO dR = false → PyData.eqvAll (dataM n' ps r' sz' cd') (dataM "m" ps r sz cd) = false) := by
        have hx2 : x ∈ ([.int 0, .int 2, .int 3, .int 4] : List V) := List.mem_of_getElem? hx
        have shS : ∀ z : Str, PyData.strOk z = true → SeqAt.shaped (.str z) = true := fun z hz => by
          unfold SeqAt.shaped
          rw [Bool.and_eq_true]
          exact ⟨hz, rfl⟩
        have shI : ∀ z : Int, SeqAt.shaped (.int z) = true := fun z => rfl
        simp only [List.mem_cons, List.not_mem_nil, or_false] at hx2
        have hJP : ∀ d ∈ [PyData.tuple [.str "jump", .int 0]], InsP sz (1 : Nat) d := fun d hd => by
          rw [List.mem_singleton] at hd
          subst hd
          exact .jump 0 (by decide) (by decide)
        rcases hx2 with rfl | rfl | rfl | rfl
        · exact ⟨0, rfl, _, _, .str "other", .str "m", rfl, rfl, .str _, .str _, shS _ (by decide +kernel), shS _ (by decide +kernel), "other", r, sz, cV, cd, { pp with nm := ⟨by decide, by decide, by decide +kernel⟩ }, hcC, rfl, fun h => by
            simp only [dataM, PyData.eqvAll, h, Bool.false_and]⟩
        · exact ⟨2, rfl, _, _, .str "zz", .str r, rfl, rfl, .str _, .str _, shS _ (by decide +kernel), shS _ pp.rt.2.2, "m", "zz", sz, cV, cd, { pp with rt := ⟨by decide +kernel, by decide, by decide +kernel⟩ }, hcC, rfl, fun h => by
            simp only [dataM, PyData.eqvAll, h, Bool.false_and, Bool.and_false]⟩
        · exact ⟨3, rfl, _, _, .int (sz + 1), .int sz, rfl, rfl, .int _, .int _, shI _, shI _, "m", r, sz + 1, cV, cd, { pp with s0 := by have := pp.s0; omega, s1 := by omega, ci := fun d hd => (pp.ci d hd).more (by omega) }, hcC, rfl, fun h => by
            simp only [dataM, PyData.eqvAll, h, Bool.false_and, Bool.and_false]⟩
        · refine ⟨4, rfl, _, _, .list [.tuple [.str "jump", .int 0]], .list cd, rfl, rfl, dp_of zJ (by decide +kernel), dp_of hcC (layAll_of cd pp.okc pp.noc), by decide +kernel, ?_, "m", r, sz, .ref J, [.tuple [.str "jump", .int 0]], { pp with c0 := by simp, c1 := by simp, ci := hJP }, zJ, rfl, fun h => ?_⟩
          · unfold SeqAt.shaped
            rw [Bool.and_eq_true]
            refine ⟨layAll_of cd pp.okc pp.noc, decide_eq_true ?_⟩
            have h2 : PyData.depthAll cd ≤ 2 := depthAll_le fun d hd => ins_depth (pp.ci d hd)
            rw [PyData.depth]
            omega
          · rw [PyData.eqv] at h
            have h2 : PyData.eqv (.tuple [.tuple [.str "jump", .int 0]]) (.tuple cd) = false := by rw [PyData.eqv]; exact h
            simp only [dataM, PyData.eqvAll, h2, Bool.false_and, Bool.and_false]
      have hl := congrArg List.length hset
      simp only [List.length_append, List.length_cons, List.length_nil] at hl
      refine ⟨_, rfl, _, rfl, O, _, k, xo, rfl, rfl, SqL.of sO, atI_nat ho, _, rfl, _, rfl, R, _, k, xr, rfl, rfl, SqL.of sR, atI_nat hr', dO, dR, hdo, hdr, so, sr, _, rfl, ite2 (fun hne => ?_) (fun _ => ⟨eC, _, _, rfl⟩)⟩
      refine ⟨fun σ' H' => ∃ Lp : Addr, σ' = [some m, some (.ref R), some (.ref O), some (.int (k : Int)), some (.ref Lp)] ∧ Evl.Ex HC H' ∧ H' Lp = some (.lst [.str n', pV, .str r', .int sz', cV']), ?_, ?_⟩
      · refine ⟨_, rfl, _, rfl, _, rfl, R, _, rfl, SqL.of sR, fun q1 hq1 => ?_⟩
        have f1 := Evl.Ex.new (o := .lst (cutV [.str "m", pV, .str r, .int sz, cV] none (some (k : Int)))) hq1
        refine ⟨_, rfl, _, rfl, O, _, k, xo, rfl, rfl, SqL.of (f1 _ _ sO), atI_nat ho, le_line (by simp), fun q2 hq2 => ?_⟩
        have f2 := Evl.Ex.new (o := .lst [xo]) hq2
        refine ⟨q1, q2, _, _, rfl, rfl, f2 _ _ upd_same, upd_same, le_line (by rw [List.length_singleton]; omega), fun q3 hq3 => ?_⟩
        have f3 := Evl.Ex.new (o := .lst (cutV [.str "m", pV, .str r, .int sz, cV] none (some (k : Int)) ++ [xo])) hq3
        refine ⟨_, rfl, _, rfl, _, _, rfl, rfl, _, rfl, ?_⟩
        dsimp only [tNoPart]
        refine ⟨R, _, rfl, SqL.of (f3 _ _ (f2 _ _ (f1 _ _ sR))), fun q4 hq4 => ?_⟩
        have f4 := Evl.Ex.new (o := .lst (cutV [.str "m", pV, .str r, .int sz, cV] (some ((k : Int) + 1)) none)) hq4
        refine ⟨q3, q4, _, _, rfl, rfl, f4 _ _ upd_same, upd_same, le_line (by rw [List.length_append, List.length_singleton]; omega), fun q5 hq5 => ?_⟩
        refine ⟨q5, rfl, (((f1.trans f2).trans f3).trans f4).trans (Evl.Ex.new hq5), ?_⟩
        rw [upd_same, hset]
      · rintro σ' HD ⟨Lp, rfl, eD, sLp⟩
        have e0D := e0C.trans eD
        have hm' := hm.ext e0D
        obtain ⟨xm, dxm, n0, p0, r0, z0, c0, ds0, rfl, hxm, hds0, ed0⟩ := hm'
        refine ⟨_, rfl, Lp, _, 0, .str n', rfl, rfl, SqL.of sLp, at0, _, rfl, Lp, _, 1, pV, rfl, rfl, SqL.of sLp, atI_nat (j := 1) rfl, _, rfl, Lp, _, 2, .str r', rfl, rfl, SqL.of sLp, atI_nat (j := 2) rfl, _, rfl, Lp, _, 3, .int sz', rfl, rfl, SqL.of sLp, atI_nat (j := 3) rfl, _, rfl, Lp, _, 4, cV', rfl, rfl, SqL.of sLp, atI_nat (j := 4) rfl, fun x dx hx hdx hxd => ?_⟩
        have e1 : Evl.Ex HD (upd (upd HD dx (.own x)) x (.ins (He.ga K "Method") dx [])) := fun b o e => by
          rw [upd_ne (by rintro rfl; rw [hx] at e; cases e), upd_ne (by rintro rfl; rw [hdx] at e; cases e)]; exact e
        refine ⟨x, dx, _, _, _, _, _, _, _, _, _, sz', rfl, upd_same, hpart.ok ((hp.ext e0D).ext e1) ((hcv.ext eD).ext e1), fun H' p' c' hk ha hp' hc' => ⟨rfl, ?_⟩⟩
        have e2 : Evl.Ex HD H' := fun b o e => hk b o (by rintro rfl; rw [hx] at e; cases e) (e1 b o e)
        refine ⟨_, rfl, x, dx, _, xm, rfl, rfl, ha, .inl ⟨_, _, e2 _ _ hxm⟩, _, _, .tuple (dataM n' ps r' sz' cd'), rfl, ⟨x, dx, _, _, _, _, _, _, rfl, ha, .cons (.str _) (.cons hp' (.cons (.str _) (.cons (.int _) (.cons hc' .nil)))), rfl⟩, hpart.shaped, .inl ⟨.tuple (dataM "m" ps r sz cd), ⟨xm, dxm, n0, p0, r0, z0, c0, ds0, rfl, e2 _ _ hxm, hds0.ext e2, ed0⟩, pp.shaped, fun H'' e3 => ⟨_, rfl, _, rfl, ?_⟩⟩⟩
        have heq : PyData.eqv (.tuple (dataM n' ps r' sz' cd')) (.tuple (dataM "m" ps r sz cd)) = false := by
          rw [PyData.eqv]
          refine hcmp ?_
          cases hq : PyData.eqv dO dR with
          | false => rfl
          | true => rw [hq] at hne; cases hne
        rw [heq]
        exact iteF ⟨((eC.trans eD).trans e2).trans e3, _, _, rfl⟩
    · rintro σ HC ⟨eC, v3, v4, rfl⟩
      exact hQ _ (eB.trans eC)
end
end K03
set_option Elab.async false
set_option linter.all false
set_option maxRecDepth 100000
set_option maxHeartbeats 0
namespace K03
open PySem PySem.Spec PyProof.Rows L2 EX2
theorem wr0_str : ∀ d ∈ wr0, PyData.strOk d.shown = true := by decide +kernel
theorem wr1_str : ∀ d ∈ wr1, PyData.strOk d.shown = true := by decide +kernel
theorem wr2_str : ∀ d ∈ wr2, PyData.strOk d.shown = true := by decide +kernel
theorem wr3_str {n : Nat} (h : n ≤ 2) : ∀ d ∈ wr3 n, PyData.strOk d.shown = true := by
  have : n = 0 ∨ n = 1 ∨ n = 2 := by omega
  rcases this with rfl | rfl | rfl <;> decide +kernel
theorem codes_str {sz : Int} (h0 : 1 ≤ sz) (h1 : sz ≤ 6) : ∀ d ∈ codesD sz, PyData.strOk d.shown = true := by
  have : sz = 1 ∨ sz = 2 ∨ sz = 3 ∨ sz = 4 ∨ sz = 5 ∨ sz = 6 := by omega
  rcases this with rfl | rfl | rfl | rfl | rfl | rfl <;> decide +kernel
/-- a list of parts of which x is the first wrong one -/
def BadL (H : Hp) (l : List V) (x : V) : Prop := ∃ (n p r z c : V) (dn dp dr dz dc : PyData), l = [n, p, r, z, c] ∧ PartsW H n p r z c dn dp dr dz dc ∧ badV n p r z c dn dp dr dz dc = some x
theorem BadL.ext {H H' : Hp} {l : List V} {x : V} (h : BadL H l x) (e : Evl.Ex H H') : BadL H' l x := by
  obtain ⟨n, p, r, z, c, dn, dp, dr, dz, dc, h1, h2, h3⟩ := h
  exact ⟨n, p, r, z, c, dn, dp, dr, dz, dc, h1, h2.ext e, h3⟩
theorem hc_of {H : Hp} {x : V} {d : PyData} (h : Dw H x d) (k : okD d = true) : (Dq H x d ∧ okD d = true) ∨ ∃ a kvs es, x = .ref a ∧ H a = some (.dT kvs) ∧ d = .dict es := by
  cases h with
  | q h => exact .inl ⟨h, k⟩
  | t e h => exact .inr ⟨_, _, _, rfl, e, rfl⟩
theorem bads {H : Hp} {pV cV x0 x1 x2 x3 x4 : V} {ps cd : List PyData} {r : Str} {sz : Int} {d0 d1 d2 d3 d4 : PyData} (pp : PartP "m" ps r sz cd) (h6 : sz ≤ 6) (hp : Dq H pV (.list ps)) (hc : Dq H cV (.list cd)) (hw : Wrong5 H ps.length sz x0 x1 x2 x3 x4 d0 d1 d2 d3 d4) (k : Nat) (hk : k < 5) :
    ∃ (x : V) (d : PyData), ([x0, x1, x2, x3, x4] : List V)[k]? = some x ∧ Dw H x d ∧ ShowD d ∧ PyData.strOk d.shown = true ∧ BadL H (cutV [.str "m", pV, .str r, .int sz, cV] none (some (k : Int)) ++ cutV [x0, x1, x2, x3, x4] (some (k : Int)) none) x ∧
      BadL H ((cutV [.str "m", pV, .str r, .int sz, cV] none (some (k : Int)) ++ [x]) ++ cutV [.str "m", pV, .str r, .int sz, cV] (some ((k : Int) + 1)) none) x := by
  obtain ⟨z0, m0, z1, m1, z2, m2, z3, m3, z4, m4⟩ := hw
  have ok := pp.ok hp hc
  have s1 : 1 ≤ sz := by have := pp.s0; omega
  obtain ⟨a0, b0, c0⟩ := wr0_ok _ m0
  obtain ⟨a1, b1, c1⟩ := wr1_ok _ m1
  obtain ⟨a2, b2, c2⟩ := wr2_ok _ m2
  obtain ⟨a3, b3, c3⟩ := wr3_ok pp.pl _ m3
  obtain ⟨a4, b4, c4⟩ := codes_ok s1 h6 _ m4
  have kk : kindsD (.list ps) = true := by unfold kindsD; rw [ok.kp, ok.kt]; rfl
  have kz : inR (1 + (itemsOf (.list ps)).length) 10 (.int sz) = true := ok.kz
  have a3' : inR (1 + (itemsOf (.list ps)).length) 10 d3 = false := a3
  have hz : Dq H (.int sz) (.int sz) := .int sz
  have hr : Dq H (.str r) (.str r) := .str r
  have hn : Dq H (.str "m") (.str "m") := .str _
  have hcR : (Dq H cV (.list cd) ∧ okD (.list cd) = true) ∨ ∃ a kvs es, cV = .ref a ∧ H a = some (.dT kvs) ∧ (PyData.list cd) = .dict es := .inl ⟨hc, ok.oc⟩
  have hcW := hc_of z4 b4
  have ozR : okD (.int sz) = true := rfl
  have hk5 : k = 0 ∨ k = 1 ∨ k = 2 ∨ k = 3 ∨ k = 4 := by omega
  rcases hk5 with rfl | rfl | rfl | rfl | rfl
  · exact ⟨x0, d0, rfl, .q z0, ShowD.of c0, wr0_str _ m0,
      ⟨x0, x1, x2, x3, x4, d0, d1, d2, d3, d4, rfl, ⟨z0, z1, z2, z3, hcW, b0, b1, b2, b3⟩, by simp [badV, a0]⟩,
      ⟨x0, pV, .str r, .int sz, cV, d0, _, _, _, _, rfl, ⟨z0, hp, hr, hz, hcR, b0, ok.op, ok.or, ozR⟩, by simp [badV, a0]⟩⟩
  · exact ⟨x1, d1, rfl, .q z1, ShowD.of c1, wr1_str _ m1,
      ⟨.str "m", x1, x2, x3, x4, _, d1, d2, d3, d4, rfl, ⟨hn, z1, z2, z3, hcW, ok.on, b1, b2, b3⟩, by simp [badV, ok.kn, a1]⟩,
      ⟨.str "m", x1, .str r, .int sz, cV, _, d1, _, _, _, rfl, ⟨hn, z1, hr, hz, hcR, ok.on, b1, ok.or, ozR⟩, by simp [badV, ok.kn, a1]⟩⟩
  · exact ⟨x2, d2, rfl, .q z2, ShowD.of c2, wr2_str _ m2,
      ⟨.str "m", pV, x2, x3, x4, _, _, d2, d3, d4, rfl, ⟨hn, hp, z2, z3, hcW, ok.on, ok.op, b2, b3⟩, by simp [badV, ok.kn, kk, a2]⟩,
      ⟨.str "m", pV, x2, .int sz, cV, _, _, d2, _, _, rfl, ⟨hn, hp, z2, hz, hcR, ok.on, ok.op, b2, ozR⟩, by simp [badV, ok.kn, kk, a2]⟩⟩
  · exact ⟨x3, d3, rfl, .q z3, ShowD.of c3, wr3_str pp.pl _ m3,
      ⟨.str "m", pV, .str r, x3, x4, _, _, _, d3, d4, rfl, ⟨hn, hp, hr, z3, hcW, ok.on, ok.op, ok.or, b3⟩, by simp only [badV, ok.kn, kk, ok.kr, a3', if_true, Bool.false_eq_true, if_false]⟩,
      ⟨.str "m", pV, .str r, x3, cV, _, _, _, d3, _, rfl, ⟨hn, hp, hr, z3, hcR, ok.on, ok.op, ok.or, b3⟩, by simp only [badV, ok.kn, kk, ok.kr, a3', if_true, Bool.false_eq_true, if_false]⟩⟩
  · have a4' : codeZ (.int sz) d4 = false := a4
    exact ⟨x4, d4, rfl, z4, ShowD.of c4, codes_str s1 h6 _ m4,
      ⟨.str "m", pV, .str r, .int sz, x4, _, _, _, _, d4, rfl, ⟨hn, hp, hr, hz, hcW, ok.on, ok.op, ok.or, ozR⟩, by simp only [badV, ok.kn, kk, ok.kr, kz, a4', if_true, Bool.false_eq_true, if_false]⟩,
      ⟨.str "m", pV, .str r, .int sz, x4, _, _, _, _, d4, rfl, ⟨hn, hp, hr, hz, hcW, ok.on, ok.op, ok.or, ozR⟩, by simp only [badV, ok.kn, kk, ok.kr, kz, a4', if_true, Bool.false_eq_true, if_false]⟩⟩
end K03
set_option Elab.async false
set_option linter.all false
set_option maxRecDepth 100000
set_option maxHeartbeats 0
namespace K03
open PySem PySem.Spec PyProof.Rows L2 EX2
abbrev sLaw : Stmt := top 35
/-- what the law needs -/
structure LawF (P : Program) (w : World) (K : PySem.W.Frag) (mg : Str → Option Value) (base : Heap) : Prop where
  d : Defs w K mg
  m : MethF K mg
  x : ExcF P w K mg base
  i : InsF K (He.ga K "Method")
  sd : SysD base
  gR : mg "repr" = none
  refd : ∃ f fd, mg "_law_refused" = some (.ref f) ∧ FnP K "_law_refused" sRef f fd
  codes : ∃ f fd, mg "_law_codes" = some (.ref f) ∧ FnP K "_law_codes" sCodes f fd
  wrongs : ∃ f fd, mg "_law_wrongs" = some (.ref f) ∧ FnP K "_law_wrongs" sWrongs f fd
  others : ∃ f fd, mg "_law_others_right" = some (.ref f) ∧ FnP K "_law_others_right" sOthers f fd
  g1 : GetP P w K mg base "name" "own_name"
  g2 : GetP P w K mg base "params" "own_params"
  g3 : GetP P w K mg base "result" "own_result"
  g4 : GetP P w K mg base "size" "own_size"
  g5 : GetP P w K mg base "code" "own_code"
def spLaw (K : PySem.W.Frag) : Sp := fun vs H Q _ => ∃ (a : Addr) (ns : List Int), vs = [.ref a] ∧ SqL K H a (ns.map V.int) ∧ ns.length ≤ 63 ∧ ∀ H', Q (.bl true) H'
/-- a turn's things: the method, its parts, the lists made of them -/
structure TurnA (p x pa ca pl cl R : Addr) : Prop where
  nx : x ≠ p
  na : pa ≠ p
  nc : ca ≠ p
  nl : pl ≠ p
  nk : cl ≠ p
  nR : R ≠ p
  pc : pl ≠ cl
  Rp : R ≠ pl
  Rc : R ≠ cl
structure TurnI (C p : Addr) (H0 H : Hp) (x dx pa ca pl cl R : Addr) (pls cls pxs cxs : List V) (ps : List PyData) (r : Str) (sz : Int) (cd : List PyData) : Prop where
  lx : Lx p H0 H
  np : H0 pl = none
  nc : H0 cl = none
  mx : H x = some (.ins C dx (mfields (.str "m") (.ref pa) (.str r) (.int sz) (.ref ca)))
  pt : H pa = some (.tup pxs)
  ct : H ca = some (.tup cxs)
  dp : DzAll p H pxs ps
  dc : DzAll p H cxs cd
  sR : H R = some (.lst [.str "m", .ref pl, .str r, .int sz, .ref cl])
  sP : H pl = some (.lst pls)
  sC : H cl = some (.lst cls)
section
variable {C p : Addr} {H0 H H' : Hp} {x dx pa ca pl cl R : Addr} {pls cls pxs cxs : List V} {ps cd : List PyData} {r : Str} {sz : Int}
theorem TurnI.ext (h : TurnI C p H0 H x dx pa ca pl cl R pls cls pxs cxs ps r sz cd) (a : TurnA p x pa ca pl cl R) (l : Lx p H H') : TurnI C p H0 H' x dx pa ca pl cl R pls cls pxs cxs ps r sz cd :=
  ⟨h.lx.trans l, h.np, h.nc, l.at h.mx a.nx, l.at h.pt a.na, l.at h.ct a.nc, h.dp.lx l, h.dc.lx l, l.at h.sR a.nR, l.at h.sP a.nl, l.at h.sC a.nk⟩
theorem TurnI.mP (h : TurnI C p H0 H x dx pa ca pl cl R pls cls pxs cxs ps r sz cd) (a : TurnA p x pa ca pl cl R) (n1 : noLs ps = true) (n2 : noLs cd = true) (new : List V) : TurnI C p H0 (upd H pl (.lst new)) x dx pa ca pl cl R new cls pxs cxs ps r sz cd :=
  ⟨h.lx.mut a.nl h.np, h.np, h.nc, by rw [upd_ne (ne_of h.mx h.sP (fun z => nomatch z))]; exact h.mx, by rw [upd_ne (ne_of h.pt h.sP (fun z => nomatch z))]; exact h.pt, by rw [upd_ne (ne_of h.ct h.sP (fun z => nomatch z))]; exact h.ct,
    DzAll.mutD h.sP a.nl h.dp n1, DzAll.mutD h.sP a.nl h.dc n2, by rw [upd_ne a.Rp]; exact h.sR, upd_same, by rw [upd_ne a.pc.symm]; exact h.sC⟩
theorem TurnI.mC (h : TurnI C p H0 H x dx pa ca pl cl R pls cls pxs cxs ps r sz cd) (a : TurnA p x pa ca pl cl R) (n1 : noLs ps = true) (n2 : noLs cd = true) (new : List V) : TurnI C p H0 (upd H cl (.lst new)) x dx pa ca pl cl R pls new pxs cxs ps r sz cd :=
  ⟨h.lx.mut a.nk h.nc, h.np, h.nc, by rw [upd_ne (ne_of h.mx h.sC (fun z => nomatch z))]; exact h.mx, by rw [upd_ne (ne_of h.pt h.sC (fun z => nomatch z))]; exact h.pt, by rw [upd_ne (ne_of h.ct h.sC (fun z => nomatch z))]; exact h.ct,
    DzAll.mutD h.sC a.nk h.dp n1, DzAll.mutD h.sC a.nk h.dc n2, by rw [upd_ne a.Rc]; exact h.sR, by rw [upd_ne a.pc]; exact h.sP, upd_same⟩
theorem TurnI.zp (h : TurnI C p H0 H x dx pa ca pl cl R pls cls pxs cxs ps r sz cd) (a : TurnA p x pa ca pl cl R) : Dz p H (.ref pa) (.tuple ps) := .tup (by rw [rm_ne a.na]; exact h.pt) h.dp
theorem TurnI.zc (h : TurnI C p H0 H x dx pa ca pl cl R pls cls pxs cxs ps r sz cd) (a : TurnA p x pa ca pl cl R) : Dz p H (.ref ca) (.tuple cd) := .tup (by rw [rm_ne a.nc]; exact h.ct) h.dc
theorem TurnI.zpl (h : TurnI C p H0 H x dx pa ca pl cl R pxs cls pxs cxs ps r sz cd) (a : TurnA p x pa ca pl cl R) : Dz p H (.ref pl) (.list ps) := .lst (by rw [rm_ne a.nl]; exact h.sP) h.dp
theorem TurnI.zcl (h : TurnI C p H0 H x dx pa ca pl cl R pls cxs pxs cxs ps r sz cd) (a : TurnA p x pa ca pl cl R) : Dz p H (.ref cl) (.list cd) := .lst (by rw [rm_ne a.nk]; exact h.sC) h.dc
theorem TurnI.meth (h : TurnI C p H0 H x dx pa ca pl cl R pls cls pxs cxs ps r sz cd) (a : TurnA p x pa ca pl cl R) : MethD C H (.ref x) (.tuple (dataM "m" ps r sz cd)) :=
  ⟨x, dx, _, _, _, _, _, _, rfl, h.mx, .cons (.str _) (.cons (h.zp a).q (.cons (.str _) (.cons (.int _) (.cons (h.zc a).q .nil)))), rfl⟩
theorem TurnI.at (h : TurnI C p H0 H x dx pa ca pl cl R pls cls pxs cxs ps r sz cd) (a : TurnA p x pa ca pl cl R) : MethAt C (rm p H) (.ref x) (.str "m") ps (.str r) (.int sz) cd :=
  ⟨x, dx, _, _, rfl, by rw [rm_ne a.nx]; exact h.mx, h.zp a, h.zc a⟩
end
/-- the twin -/
structure TwI (C p : Addr) (H : Hp) (tw dtw : Addr) (tp tc : V) (ps : List PyData) (r : Str) (sz : Int) (cd : List PyData) : Prop where
  ne : tw ≠ p
  mx : H tw = some (.ins C dtw (mfields (.str "m") tp (.str r) (.int sz) tc))
  dp : Dz p H tp (.tuple ps)
  dc : Dz p H tc (.tuple cd)
section
variable {C p : Addr} {H H' : Hp} {tw dtw : Addr} {tp tc : V} {ps cd : List PyData} {r : Str} {sz : Int}
theorem TwI.ext (h : TwI C p H tw dtw tp tc ps r sz cd) (l : Lx p H H') : TwI C p H' tw dtw tp tc ps r sz cd := ⟨h.ne, l.at h.mx h.ne, h.dp.lx l, h.dc.lx l⟩
theorem TwI.mut {L : Addr} {ls : List V} {o : HO} (h : TwI C p H tw dtw tp tc ps r sz cd) (hL : H L = some (.lst ls)) (np : L ≠ p) (n1 : noLs ps = true) (n2 : noLs cd = true) : TwI C p (upd H L o) tw dtw tp tc ps r sz cd :=
  ⟨h.ne, by rw [upd_ne (ne_of h.mx hL (fun z => nomatch z))]; exact h.mx, Dz.mutD hL np h.dp n1, Dz.mutD hL np h.dc n2⟩
theorem TwI.meth (h : TwI C p H tw dtw tp tc ps r sz cd) : MethD C H (.ref tw) (.tuple (dataM "m" ps r sz cd)) :=
  ⟨tw, dtw, _, _, _, _, _, _, rfl, h.mx, .cons (.str _) (.cons h.dp.q (.cons (.str _) (.cons (.int _) (.cons h.dc.q .nil)))), rfl⟩
end
section
variable {P : Program} {w : World} {K : PySem.W.Frag} {mg : Str → Option Value} {base : Heap} {f : Addr} {fd : FuncData}
abbrev nlaw : List Str := ["_law_script", "_law_turn", "_law_source_here", "_law_method_here", "_law_right", "_law_twin", "_law_kept", "_law_wrongs_here", "_law_at", "_law_due"]
theorem sclaw : FnScope nlaw ["_law_script"] (defScope sLaw) := ⟨rfl, rfl, rfl, by decide +kernel, rfl, by decide +kernel, by decide +kernel⟩
theorem boot_list2 : bootBuiltins "list" = some (.type "list") := by kernel_rfl
theorem ok_law (F : FnP K "law" sLaw f fd) (LF : LawF P w K mg base) : FnOkG P w K mg base 11 f fd ["_law_script"] (spLaw K) := by
  have D := LF.d
  have T := D.t
  have M := LF.m
  obtain ⟨fS, fdS, gS, FS⟩ := D.source
  have GS : FnOk P w K mg base CX0 1 fS fdS ["_law_script", "_law_turn"] (spSource K) := ok_source FS T
  have bS : Binds K fdS ["_law_script", "_law_turn"] [] := FS.bindsN fun _ _ _ _ _ _ us hl => match us, hl with | [_, _], _ => rfl
  obtain ⟨fD, fdD, gD, FD⟩ := D.draw
  have GD : FnOk P w K mg base CX0 1 fD fdD ["_law_source_here", "_law_amount"] spDr := okL_draw FD D
  have bD : Binds K fdD ["_law_source_here", "_law_amount"] [] := FD.bindsN fun _ _ _ _ _ _ us hl => match us, hl with | [_, _], _ => rfl
  obtain ⟨fH, fdH, gH, FH⟩ := D.method
  have GH : FnOk P w K mg base CX0 8 fH fdH ["_law_source_here", "_law_is_ready"] (spMethod (He.ga K "Method")) := ok_method FH D M LF.x
  have bH : Binds K fdH ["_law_source_here", "_law_is_ready"] [] := FH.bindsN fun _ _ _ _ _ _ us hl => match us, hl with | [_, _], _ => rfl
  obtain ⟨fdI, FI⟩ := M.init
  have GI : FnOk P w K mg base (L2.CX P w) 6 _ fdI ["self", "name", "params", "result", "size", "code"] (spInit (He.ga K "Method")) := (ok_initX FI D M LF.x).imp spInit_X
  have bI : Binds K fdI ["self", "name", "params", "result", "size", "code"] [] := FI.bindsN fun _ _ _ _ _ _ us hl => match us, hl with | [_, _, _, _, _, _], _ => rfl
  obtain ⟨fdQ, FQ⟩ := M.eq
  have GQ : FnOk P w K mg base CX0 2 _ fdQ ["self", "other"] (spEqM (He.ga K "Method")) := ok_eqM FQ D M LF.i
  have bQ : Binds K fdQ ["self", "other"] [] := FunD.bindsN FQ fun _ _ _ _ _ _ us hl => match us, hl with | [_, _], _ => rfl
  obtain ⟨fR, fdR, gRf, FR⟩ := LF.refd
  have GR : FnOkG P w K mg base 8 fR fdR ["_law_parts"] spRef := ok_ref FR D M LF.x LF.sd LF.gR
  have bR : Binds K fdR ["_law_parts"] [] := FR.bindsN fun _ _ _ _ _ _ us hl => match us, hl with | [_], _ => rfl
  obtain ⟨fW, fdW, gW, FW⟩ := LF.wrongs
  have GW : FnOk P w K mg base CX0 3 fW fdW ["_law_source_here", "_law_method_here"] (spWrongs (He.ga K "Method")) := ok_wrongs FW D M LF.codes LF.g2 LF.g4
  have bW : Binds K fdW ["_law_source_here", "_law_method_here"] [] := FW.bindsN fun _ _ _ _ _ _ us hl => match us, hl with | [_, _], _ => rfl
  obtain ⟨fO, fdO, gO, FO⟩ := LF.others
  have GO : FnOk P w K mg base CX0 8 fO fdO ["_law_method_here", "_law_right"] (spOthers (He.ga K "Method")) := ok_others FO D M LF.x LF.i
  have bO : Binds K fdO ["_law_method_here", "_law_right"] [] := FO.bindsN fun _ _ _ _ _ _ us hl => match us, hl with | [_, _], _ => rfl
  obtain ⟨p1, fd1, G1, b1⟩ := LF.g1
  obtain ⟨p2, fd2, G2, b2⟩ := LF.g2
  obtain ⟨p3, fd3, G3, b3⟩ := LF.g3
  obtain ⟨p4, fd4, G4, b4⟩ := LF.g4
  obtain ⟨p5, fd5, G5, b5⟩ := LF.g5
  refine EX2.okG F sclaw (fun vs H Q E h => ?_) (fun cdv A outer s H vs Q E hg hr h => ?_)
  · obtain ⟨a, ns, rfl, _⟩ := h
    rfl
  · obtain ⟨a, ns, rfl, hS, hns, hQ⟩ := h
    have hG : (A.deeper (envOfC "law" (defScope sLaw) s.heap.objs.size f cdv)).guards = some [] := by rw [EX2.guards_deeper]; exact hg
    have hu : (A.deeper (envOfC "law" (defScope sLaw) s.heap.objs.size f cdv)).units + 65 < cLine := by have := hr.un; omega
    refine ⟨_, PSs.nox (pss_cons (ps_for PassesOwn.never rfl (pi_range1 rfl T.rng (pa_cons (pe_callB (call_max2 rfl) rfl T.max boot_max (pa_cons pe_int (pa_cons (pe_callB (call_min2 rfl) rfl T.min boot_min (pa_cons (pe_callB call_len rfl T.len boot_len (pa_cons (pv 0) pa_nil)) (pa_cons pe_int pa_nil))) pa_nil))) pa_nil)) (pg_name (i := 1) sclaw.nd rfl (Or.inl rfl))
        (pss_cons (ps_set (i := 2) sclaw.nd rfl (Or.inl rfl) (pe_call GS (hr.mono (by decide)) rfl gS FS.kp bS .nil pass0 (pa_cons (pv 0) (pa_cons (pv 1) pa_nil))))
        (pss_cons (ps_set (i := 3) sclaw.nd rfl (Or.inl rfl) (pe_call GH (hr.mono (by decide)) rfl gH FH.kp bH .nil pass0 (pa_cons (pv 2) (pa_cons (pe_cmpR op_eq (pe_call GD (hr.mono (by decide)) rfl gD FD.kp bD .nil pass0 (pa_cons (pv 2) (pa_cons pe_int pa_nil))) pe_int (nomark _)) pa_nil))))
        (Evl.pss_cut (ps_set (i := 4) sclaw.nd rfl (Or.inl rfl) (pe_lst (pa_cons (pe_prop (pv 3) M.cl p1 G1 (hr.mono (by decide)) b1 .nil pass0 rfl) (pa_cons (pe_callTy call_list_of rfl T.lst boot_list (pa_cons (pe_prop (pv 3) M.cl p2 G2 (hr.mono (by decide)) b2 .nil pass0 rfl) pa_nil)) (pa_cons (pe_prop (pv 3) M.cl p3 G3 (hr.mono (by decide)) b3 .nil pass0 rfl) (pa_cons (pe_prop (pv 3) M.cl p4 G4 (hr.mono (by decide)) b4 .nil pass0 rfl) (pa_cons (pe_callTy call_list_of rfl T.lst boot_list (pa_cons (pe_prop (pv 3) M.cl p5 G5 (hr.mono (by decide)) b5 .nil pass0 rfl) pa_nil)) pa_nil)))))))
        (Evl.pss_cut (ps_set (i := 5) sclaw.nd rfl (Or.inl rfl) (pe_make M.mkr GI (hr.mono (by decide)) rfl M.hm bI .nil passL (pa_cons (pe_ix ix_list (pv 4) pe_int (fun _ _ => rfl)) (pa_cons (pe_ix ix_list (pv 4) pe_int (fun _ _ => rfl)) (pa_cons (pe_ix ix_list (pv 4) pe_int (fun _ _ => rfl)) (pa_cons (pe_ix ix_list (pv 4) pe_int (fun _ _ => rfl)) (pa_cons (pe_ix ix_list (pv 4) pe_int (fun _ _ => rfl)) pa_nil)))))))
        (Evl.pss_cut (ps_set (i := 6) sclaw.nd rfl (Or.inl rfl) (pe_lst (pa_cons (pe_prop (pv 3) M.cl p1 G1 (hr.mono (by decide)) b1 .nil pass0 rfl) (pa_cons (pe_prop (pv 3) M.cl p2 G2 (hr.mono (by decide)) b2 .nil pass0 rfl) (pa_cons (pe_prop (pv 3) M.cl p3 G3 (hr.mono (by decide)) b3 .nil pass0 rfl) (pa_cons (pe_prop (pv 3) M.cl p4 G4 (hr.mono (by decide)) b4 .nil pass0 rfl) (pa_cons (pe_prop (pv 3) M.cl p5 G5 (hr.mono (by decide)) b5 .nil pass0 rfl) pa_nil)))))))
        (pss_cons (ps_expr (pe_bm PySem.F.plainAttrs_list PySem.F.slot_list_append PySem.F.type_list_append mt_append (pe_ix ix_list (pv 4) pe_int (fun _ _ => rfl)) (pa_cons pe_str pa_nil)))
        (pss_cons (ps_expr (pe_bm PySem.F.plainAttrs_list PySem.F.slot_list_append PySem.F.type_list_append mt_append (pe_ix ix_list (pv 4) pe_int (fun _ _ => rfl)) (pa_cons (pe_tup (pa_cons pe_str (pa_cons pe_int pa_nil))) pa_nil)))
        (pss_cons (ps_if (PW.pt (pw_or (pt_cmpR (op_neD hr.units) (pe_lst (pa_cons (pe_prop (pv 5) M.cl p1 G1 (hr.mono (by decide)) b1 .nil pass0 rfl) (pa_cons (pe_prop (pv 5) M.cl p2 G2 (hr.mono (by decide)) b2 .nil pass0 rfl) (pa_cons (pe_prop (pv 5) M.cl p3 G3 (hr.mono (by decide)) b3 .nil pass0 rfl) (pa_cons (pe_prop (pv 5) M.cl p4 G4 (hr.mono (by decide)) b4 .nil pass0 rfl) (pa_cons (pe_prop (pv 5) M.cl p5 G5 (hr.mono (by decide)) b5 .nil pass0 rfl) pa_nil)))))) (pv 6) (nomark _)) (pw_or1 (pt_not (pt_cmpR (op_eqI GQ M.em.at_ M.em.fn bQ (hr.mono (by decide))) (pv 5) (pv 3) (nomark _))))))
          (pss_one (ps_ret pe_bl))
          pss_nil)
        (pss_cons (ps_expr (pe_bm0 PySem.F.plainAttrs_list PySem.F.slot_list_pop PySem.F.type_list_pop mt_pop (pe_ix ix_list (pv 4) pe_int (fun _ _ => rfl))))
        (pss_cons (ps_expr (pe_bm0 PySem.F.plainAttrs_list PySem.F.slot_list_pop PySem.F.type_list_pop mt_pop (pe_ix ix_list (pv 4) pe_int (fun _ _ => rfl))))
        (pss_cons (ps_set (i := 7) sclaw.nd rfl (Or.inl rfl) (pe_call GW (hr.mono (by decide)) rfl gW FW.kp bW .nil pass0 (pa_cons (pv 2) (pa_cons (pv 3) pa_nil))))
        (pss_cons (ps_for PassesOwn.never rfl (pi_range1 rfl T.rng (pa_cons pe_int pa_nil)) (pg_name (i := 8) sclaw.nd rfl (Or.inl rfl))
          (pss_cons (ps_set (i := 9) sclaw.nd rfl (Or.inl rfl) (pe_lst (pa_cons (pe_callB (EX2.call_reprW hG hu LF.sd) rfl LF.gR boot_rep (pa_cons (pe_ix ix_list (pv 7) (pv 8) (fun _ _ => rfl)) pa_nil)) (pa_cons pe_bl pa_nil))))
          (pss_cons (ps_if (pt_cmpR (op_neD hr.units) (EX2.pe_callG GR hG (hr.mono (by decide)) rfl gRf FR.kp bR (pa_cons (pe_op op_cat (pe_slice sl_list (pv 4) po_none (po_some (pv 8))) (pe_slice sl_list (pv 7) (po_some (pv 8)) po_none)) pa_nil)) (pv 9) (nomark _))
            (pss_one (ps_ret pe_bl))
            pss_nil)
          (pss_one (ps_if (pt_cmpR (op_neD hr.units) (EX2.pe_callG GR hG (hr.mono (by decide)) rfl gRf FR.kp bR (pa_cons (pe_op op_cat (pe_op op_cat (pe_slice sl_list (pv 4) po_none (po_some (pv 8))) (pe_lst (pa_cons (pe_ix ix_list (pv 7) (pv 8) (fun _ _ => rfl)) pa_nil))) (pe_slice sl_list (pv 4) (po_some (pe_op op_add (pv 8) pe_int)) po_none)) pa_nil)) (pv 9) (nomark _))
            (pss_one (ps_ret pe_bl))
            pss_nil)))))
        (pss_cons (ps_if (pt_not (pt_val (pe_call GO (hr.mono (by decide)) rfl gO FO.kp bO .nil pass0 (pa_cons (pv 3) (pa_cons (pv 4) pa_nil)))))
          (pss_one (ps_ret pe_bl))
          pss_nil)
        (pss_one (ps_if (PW.pt (pw_or (pt_cmpR (op_eqI GQ M.em.at_ M.em.fn bQ (hr.mono (by decide))) (pv 3) (pv 6) (nomark _)) (pw_or (pt_cmpR op_notN (EX2.pe_callG GR hG (hr.mono (by decide)) rfl gRf FR.kp bR (pa_cons (pv 4) pa_nil)) pe_non (nomark _)) (pw_or1 (pt_cmpR op_gt (pe_op op_add (pe_callB call_len rfl T.len boot_len (pa_cons (pe_prop (pv 3) M.cl p2 G2 (hr.mono (by decide)) b2 .nil pass0 rfl) pa_nil)) pe_int) (pe_prop (pv 3) M.cl p4 G4 (hr.mono (by decide)) b4 .nil pass0 rfl) (nomark _))))))
          (pss_one (ps_ret pe_bl))
          pss_nil))))))))))))))))
      (pss_one (ps_ret pe_bl))), ?_⟩
    have hmax : ∀ m : Int, m ≤ 25 → (if m > 1 then m else 1) ≤ 25 ∧ 1 ≤ (if m > 1 then m else 1) := fun m hm => by split <;> omega
    have hmin : (if (25 : Int) < ((ns.map V.int).length : Int) then (25 : Int) else ((ns.map V.int).length : Int)) ≤ 25 := by split <;> omega
    obtain ⟨hj1, hj2⟩ := hmax _ hmin
    refine ⟨_, rfl, _, _, rfl, Or.inl ⟨_, hS, rfl⟩, _, _, rfl, _, _, rfl, _, rfl, ?_, ?_, ?_⟩
    · exact Int.le_trans (by decide) hj2
    · exact Int.lt_of_le_of_lt hj1 (by decide)
    generalize (if (if (25 : Int) < ((ns.map V.int).length : Int) then (25 : Int) else ((ns.map V.int).length : Int)) > 1 then (if (25 : Int) < ((ns.map V.int).length : Int) then (25 : Int) else ((ns.map V.int).length : Int)) else 1) = J at hj1 hj2
    refine for_it walk_range (fun i σ H1 => Evl.Ex H H1 ∧ ∃ v1 v2 v3 v4 v5 v6 v7 v8 v9, σ = [some (.ref a), v1, v2, v3, v4, v5, v6, v7, v8, v9]) ⟨Evl.Ex.refl _, none, none, none, none, none, none, none, none, none, rfl⟩ (fun _ _ _ _ _ => trivial) ?_ (fun σ H1 _ => hQ H1)
    rintro i xi σ H1 H2 hi ⟨e1, v1, v2, v3, v4, v5, v6, v7, v8, v9, rfl⟩ ⟨rfl, rfl⟩
    have hi8 : (i : Int) < 25 := by omega
    refine ⟨_, rfl, _, rfl, a, ns, 0 + (i : Int), rfl, Evl.ex_l e1 hS, by omega, by omega, fun p N S hp hN hS1 hS2 => ?_⟩
    have sc0 : Sc p (upd H2 p (.lst [.int N, .int S])) := ⟨N, S, upd_same, hN, hS1, hS2⟩
    have back : ∀ H', Lx p (upd H2 p (.lst [.int N, .int S])) H' → Evl.Ex H H' := fun H' l => e1.trans (Lx.back (H1 := H2) hp l)
    generalize (upd H2 p (.lst [.int N, .int S])) = H3 at sc0 back
    refine ⟨_, rfl, _, rfl, p, _, rfl, sc0, by decide, by decide, fun dw H4 d0 d1 l4 => ⟨rfl, p, _, rfl, l4.sc, fun m ps r sz cd H5 l5 hm mp => ?_⟩⟩
    have pp := mp.part
    have hz6 := mp.s1
    obtain ⟨x, dx, pV, cV, rfl, hx, hpV, hcV⟩ := hm.ex
    have nx := rm_ne_of hx
    rw [rm_ne nx] at hx
    obtain ⟨pa, pxs, rfl, hpa, hpx⟩ := hpV.tupI
    obtain ⟨ca, cxs, rfl, hca, hcx⟩ := hcV.tupI
    have npa := rm_ne_of hpa
    have nca := rm_ne_of hca
    rw [rm_ne npa] at hpa
    rw [rm_ne nca] at hca
    have lA := l4.trans l5
    have sc5 := l5.sc
    have hpl2 : pxs.length = ps.length := DqAll.length hpx
    have hcl2 : cxs.length = cd.length := DqAll.length hcx
    have n1 := pp.nop
    have n2 := pp.noc
    have stR : ∀ {b : Addr} {H9 : Hp}, Lx p H3 H9 → H9 b = none → H3 b = none := fun {b H9} l hb => by
      cases hz : H3 b with
      | none => rfl
      | some o => have := l.at hz (l.sc.ne hb); rw [hb] at this; cases this
    -- the list of its parts
    refine ⟨fun σ' H' => ∃ pl cl R : Addr, σ' = [some (.ref a), some (.int (0 + (i : Int))), some (.ref p), some (.ref x), some (.ref R), v5, v6, v7, v8, v9] ∧ TurnA p x pa ca pl cl R ∧ TurnI (He.ga K "Method") p H3 H' x dx pa ca pl cl R pxs cxs pxs cxs ps r sz cd, ?_, ?_⟩
    · refine ⟨_, rfl, x, dx, _, rfl, hx, x, dx, _, .str "m", rfl, hx, rfl, _, rfl, x, dx, _, rfl, hx, x, dx, _, .ref pa, rfl, hx, rfl, pa, pxs, rfl, .inr (SqT.of hpa), fun pl hpl => ?_⟩
      have e6 := Evl.Ex.new (o := .lst pxs) hpl
      have hx6 := e6 _ _ hx
      refine ⟨_, rfl, x, dx, _, rfl, hx6, x, dx, _, .str r, rfl, hx6, rfl, _, rfl, x, dx, _, rfl, hx6, x, dx, _, .int sz, rfl, hx6, rfl, _, rfl, x, dx, _, rfl, hx6, x, dx, _, .ref ca, rfl, hx6, rfl, ca, cxs, rfl, .inr (SqT.of (e6 _ _ hca)), fun cl hcl => ⟨le_line (by simp), fun R hR => ?_⟩⟩
      have e7 := Evl.Ex.new (o := .lst cxs) hcl
      have e8 := Evl.Ex.new (o := .lst [.str "m", .ref pl, .str r, .int sz, .ref cl]) hR
      have l6 := lA.then e6
      have l7 := l6.then e7
      have l8 := l7.then e8
      have l58 := (Lx.of sc5 ((e6.trans e7).trans e8))
      have spl : (upd H5 pl (.lst pxs)) pl = some (.lst pxs) := upd_same
      have ncp : pl ≠ cl := ne_of_none spl hcl
      refine ⟨pl, cl, R, rfl, ⟨nx, npa, nca, sc5.ne hpl, l6.sc.ne hcl, l7.sc.ne hR, ncp, (ne_of_none (e7 _ _ spl) hR).symm, (ne_of_none (H := upd (upd H5 pl (.lst pxs)) cl (.lst cxs)) upd_same hR).symm⟩, l8, stR lA hpl, stR l6 hcl, l58.at hx nx, l58.at hpa npa, l58.at hca nca, DzAll.lx hpx l58, DzAll.lx hcx l58, upd_same, e8 _ _ (e7 _ _ spl), e8 _ _ upd_same⟩
    rintro σ' H6 ⟨pl, cl, R, rfl, ta, ti⟩
    clear hx hpV hcV hpa hca hpx hcx l5 lA sc5 hm l4
    -- the twin
    refine ⟨fun σ' H' => ∃ (tw dtw : Addr) (tp tc : V), σ' = [some (.ref a), some (.int (0 + (i : Int))), some (.ref p), some (.ref x), some (.ref R), some (.ref tw), v6, v7, v8, v9] ∧ TurnI (He.ga K "Method") p H3 H' x dx pa ca pl cl R pxs cxs pxs cxs ps r sz cd ∧ TwI (He.ga K "Method") p H' tw dtw tp tc ps r sz cd, ?_, ?_⟩
    · refine ⟨_, rfl, R, _, 0, .str "m", rfl, rfl, SqL.of ti.sR, at0, _, rfl, R, _, 1, .ref pl, rfl, rfl, SqL.of ti.sR, atI_nat (j := 1) rfl, _, rfl, R, _, 2, .str r, rfl, rfl, SqL.of ti.sR, atI_nat (j := 2) rfl, _, rfl, R, _, 3, .int sz, rfl, rfl, SqL.of ti.sR, atI_nat (j := 3) rfl, _, rfl, R, _, 4, .ref cl, rfl, rfl, SqL.of ti.sR, atI_nat (j := 4) rfl, fun tw dtw ht hdt htd => ?_⟩
      have e1 : Evl.Ex H6 (upd (upd H6 dtw (.own tw)) tw (.ins (He.ga K "Method") dtw [])) := fun b o e => by
        rw [upd_ne (by rintro rfl; rw [ht] at e; cases e), upd_ne (by rintro rfl; rw [hdt] at e; cases e)]; exact e
      have ntw := ti.lx.sc.ne ht
      refine ⟨tw, dtw, _, _, _, _, _, _, _, _, _, sz, rfl, upd_same, pp.ok ((ti.zpl ta).q.ext e1) ((ti.zcl ta).q.ext e1), fun H' p' c' hk ha hp' hc' => ⟨rfl, ?_⟩⟩
      have e2 : Evl.Ex H6 H' := fun b o e => hk b o (by rintro rfl; rw [ht] at e; cases e) (e1 b o e)
      have l2 := Lx.of ti.lx.sc e2
      obtain ⟨cN, cS, hsrc, _⟩ := l2.sc
      exact ⟨tw, dtw, p', c', rfl, ti.ext ta l2, ntw, ha, dq_rmL hsrc hp' n1, dq_rmL hsrc hc' n2⟩
    rintro σ' H7 ⟨tw, dtw, tp, tc, rfl, ti, tw1⟩
    -- what is kept
    refine ⟨fun σ' H' => ∃ kp : Addr, σ' = [some (.ref a), some (.int (0 + (i : Int))), some (.ref p), some (.ref x), some (.ref R), some (.ref tw), some (.ref kp), v7, v8, v9] ∧ TurnI (He.ga K "Method") p H3 H' x dx pa ca pl cl R pxs cxs pxs cxs ps r sz cd ∧ TwI (He.ga K "Method") p H' tw dtw tp tc ps r sz cd ∧ H' kp = some (.lst [.str "m", .ref pa, .str r, .int sz, .ref ca]) ∧ kp ≠ p ∧ kp ≠ pl ∧ kp ≠ cl, ?_, ?_⟩
    · refine ⟨_, rfl, x, dx, _, rfl, ti.mx, x, dx, _, .str "m", rfl, ti.mx, rfl, _, rfl, x, dx, _, rfl, ti.mx, x, dx, _, .ref pa, rfl, ti.mx, rfl, _, rfl, x, dx, _, rfl, ti.mx, x, dx, _, .str r, rfl, ti.mx, rfl, _, rfl, x, dx, _, rfl, ti.mx, x, dx, _, .int sz, rfl, ti.mx, rfl, _, rfl, x, dx, _, rfl, ti.mx, x, dx, _, .ref ca, rfl, ti.mx, rfl, le_line (by simp), fun kp hkp => ?_⟩
      have l1 : Lx p H7 (upd H7 kp (.lst [.str "m", .ref pa, .str r, .int sz, .ref ca])) := .of ti.lx.sc (Evl.Ex.new hkp)
      exact ⟨kp, rfl, ti.ext ta l1, tw1.ext l1, upd_same, ti.lx.sc.ne hkp, (ne_of_none ti.sP hkp).symm, (ne_of_none ti.sC hkp).symm⟩
    rintro σ' H8 ⟨kp, rfl, ti, tw1, sK, npk, nkl, nkc⟩
    -- two things more
    have hpx : pxs.length ≤ 2 := by have := pp.pl; omega
    have hcx : cxs.length ≤ 15 := by have := pp.c1; omega
    refine ⟨_, rfl, R, _, 1, .ref pl, rfl, rfl, SqL.of ti.sR, atI_nat (j := 1) rfl, .inl ⟨rfl, _, SqL.of ti.sP⟩, pl, pxs, .str "a", rfl, rfl, ti.sP, Nat.lt_of_lt_of_le (show pxs.length < 1000 by omega) (le_line (Nat.le_refl _)), ?_⟩
    have tw2 := tw1.mut (o := .lst (pxs ++ [.str "a"])) ti.sP ta.nl n1 n2
    have sK2 : (upd H8 pl (.lst (pxs ++ [.str "a"]))) kp = some (.lst [.str "m", .ref pa, .str r, .int sz, .ref ca]) := by rw [upd_ne nkl]; exact sK
    have ti2 := ti.mP ta n1 n2 (pxs ++ [.str "a"])
    clear ti tw1 sK
    generalize (upd H8 pl (.lst (pxs ++ [.str "a"]))) = H9 at tw2 sK2 ti2
    refine ⟨_, rfl, R, _, 4, .ref cl, rfl, rfl, SqL.of ti2.sR, atI_nat (j := 4) rfl, .inl ⟨rfl, _, SqL.of ti2.sC⟩, le_line (by simp), fun t ht => ?_⟩
    have l1 : Lx p H9 (upd H9 t (.tup [.str "null", .int 0])) := .of ti2.lx.sc (Evl.Ex.new ht)
    have ti := ti2.ext ta l1
    have tw1 := tw2.ext l1
    have sK := l1.at sK2 npk
    clear ti2 tw2 sK2
    generalize (upd H9 t (.tup [.str "null", .int 0])) = HA at ti tw1 sK
    refine ⟨cl, cxs, .ref t, rfl, rfl, ti.sC, Nat.lt_of_lt_of_le (show cxs.length < 1000 by omega) (le_line (Nat.le_refl _)), ?_⟩
    have tw2 := tw1.mut (o := .lst (cxs ++ [.ref t])) ti.sC ta.nk n1 n2
    have sK2 : (upd HA cl (.lst (cxs ++ [.ref t]))) kp = some (.lst [.str "m", .ref pa, .str r, .int sz, .ref ca]) := by rw [upd_ne nkc]; exact sK
    have ti2 := ti.mC ta n1 n2 (cxs ++ [.ref t])
    clear ti tw1 sK l1
    generalize (upd HA cl (.lst (cxs ++ [.ref t]))) = HB at tw2 sK2 ti2
    -- the twin is as the method
    refine ⟨_, rfl, tw, dtw, _, rfl, tw2.mx, tw, dtw, _, .str "m", rfl, tw2.mx, rfl, _, rfl, tw, dtw, _, rfl, tw2.mx, tw, dtw, _, tp, rfl, tw2.mx, rfl, _, rfl, tw, dtw, _, rfl, tw2.mx, tw, dtw, _, .str r, rfl, tw2.mx, rfl, _, rfl, tw, dtw, _, rfl, tw2.mx, tw, dtw, _, .int sz, rfl, tw2.mx, rfl, _, rfl, tw, dtw, _, rfl, tw2.mx, tw, dtw, _, tc, rfl, tw2.mx, rfl, le_line (by simp), fun q hq => ?_⟩
    have l1 : Lx p HB (upd HB q (.lst [.str "m", tp, .str r, .int sz, tc])) := .of ti2.lx.sc (Evl.Ex.new hq)
    have sq : (upd HB q (.lst [.str "m", tp, .str r, .int sz, tc])) q = some (.lst [.str "m", tp, .str r, .int sz, tc]) := upd_same
    have ti := ti2.ext ta l1
    have tw1 := tw2.ext l1
    have sK := l1.at sK2 npk
    clear ti2 tw2 sK2
    generalize (upd HB q (.lst [.str "m", tp, .str r, .int sz, tc])) = HC at ti tw1 sK sq
    refine ⟨_, rfl, .list (dataM "m" ps r sz cd), .list (dataM "m" ps r sz cd), dp_of (.lst sq (.cons (.str _) (.cons tw1.dp.q (.cons (.str _) (.cons (.int _) (.cons tw1.dc.q .nil)))))) pp.lay,
      dp_of (.lst sK (.cons (.str _) (.cons (ti.zp ta).q (.cons (.str _) (.cons (.int _) (.cons (ti.zc ta).q .nil)))))) pp.lay, pp.shapedL, pp.shapedL, _, rfl, ?_⟩
    rw [PySem.SeqAt.eqv_refl (.list (dataM "m" ps r sz cd)) pp.lay]
    refine iteF ⟨_, rfl, _, rfl, tw, dtw, _, x, rfl, rfl, tw1.mx, .inl ⟨_, _, ti.mx⟩, .ref tw, .ref x, .tuple (dataM "m" ps r sz cd), rfl, tw1.meth, pp.shaped, .inl ⟨.tuple (dataM "m" ps r sz cd), ti.meth ta, pp.shaped, fun HD eD => ⟨_, rfl, _, rfl, ?_⟩⟩⟩
    rw [PySem.SeqAt.eqv_refl (.tuple (dataM "m" ps r sz cd)) pp.lay]
    refine iteF ?_
    have l2 : Lx p HC HD := .of ti.lx.sc eD
    replace ti := ti.ext ta l2
    replace sK := l2.at sK npk
    clear tw1 sq l1 l2 eD
    -- off again
    refine ⟨_, rfl, R, _, 1, .ref pl, rfl, rfl, SqL.of ti.sR, atI_nat (j := 1) rfl, .inl ⟨rfl, _, SqL.of ti.sP⟩, pl, _, .str "a", rfl, rfl, ti.sP, by simp, ?_⟩
    rw [List.dropLast_concat]
    have sK2 : (upd HD pl (.lst pxs)) kp = some (.lst [.str "m", .ref pa, .str r, .int sz, .ref ca]) := by rw [upd_ne nkl]; exact sK
    have ti2 := ti.mP ta n1 n2 pxs
    clear ti sK
    generalize (upd HD pl (.lst pxs)) = HE at sK2 ti2
    refine ⟨_, rfl, R, _, 4, .ref cl, rfl, rfl, SqL.of ti2.sR, atI_nat (j := 4) rfl, .inl ⟨rfl, _, SqL.of ti2.sC⟩, cl, _, .ref t, rfl, rfl, ti2.sC, by simp, ?_⟩
    rw [List.dropLast_concat]
    have sK : (upd HE cl (.lst cxs)) kp = some (.lst [.str "m", .ref pa, .str r, .int sz, .ref ca]) := by rw [upd_ne nkc]; exact sK2
    have ti := ti2.mC ta n1 n2 cxs
    clear ti2 sK2
    generalize (upd HE cl (.lst cxs)) = HF at sK ti
    -- wrong parts
    have hs1 : 1 ≤ sz := by have := pp.s0; omega
    refine ⟨_, rfl, _, rfl, p, .ref x, .str "m", ps, .str r, sz, cd, rfl, ti.lx.sc, ti.at ta, pp.pl, hs1, hz6, fun LW x0 x1 x2 x3 x4 d0 d1 d2 d3 d4 HG lW hLW sW hw => ?_⟩
    have npW := ti.lx.sc.ne hLW
    replace sK := lW.at sK npk
    replace ti := ti.ext ta lW
    have hwG : Wrong5 HG ps.length sz x0 x1 x2 x3 x4 d0 d1 d2 d3 d4 := by
      obtain ⟨z0, m0, z1, m1, z2, m2, z3, m3, z4, m4⟩ := hw
      exact ⟨z0.ext rm_ex, m0, z1.ext rm_ex, m1, z2.ext rm_ex, m2, z3.ext rm_ex, m3, z4.ext rm_ex, m4⟩
    have hbads := fun k hk => bads (H := HG) pp hz6 (ti.zpl ta).q (ti.zcl ta).q hwG k hk
    have shp : ∀ z : Str, PyData.strOk z = true → SeqAt.shaped (.list [.str z, .bool true]) = true ∧ (PyData.list [.str z, .bool true]).canLay0 = true := fun z hz => by
      have : (PyData.list [.str z, .bool true]).canLay0 = true := by
        show (PyData.strOk z && (true && true)) = true
        rw [hz]
        rfl
      refine ⟨?_, this⟩
      unfold SeqAt.shaped
      rw [this]
      rfl
    clear hw hwG lW
    refine ⟨_, rfl, by decide, by decide, ?_⟩
    refine for_it walk_range (fun j σ H' => Evl.Ex HG H' ∧ ∃ v8 v9, σ = [some (.ref a), some (.int (0 + (i : Int))), some (.ref p), some (.ref x), some (.ref R), some (.ref tw), some (.ref kp), some (.ref LW), v8, v9]) ⟨Evl.Ex.refl _, v8, v9, rfl⟩ (fun _ _ _ _ _ => trivial) ?_ ?_
    · rintro j xi2 σ HX HH hj ⟨eH, v8, v9, rfl⟩ ⟨rfl, rfl⟩
      have hz0 : (0 + (j : Int)) = (j : Int) := Int.zero_add _
      have hj5 : j < 5 := by omega
      obtain ⟨xj, dj, hxj, hwj, shj, stj, bl1, bl2⟩ := hbads j hj5
      replace hwj := hwj.ext eH
      obtain ⟨n1', p1', r1', z1', c1', dn1, dp1, dr1, dz1, dc1, hl1, pw1, hb1⟩ := bl1.ext eH
      obtain ⟨n2', p2', r2', z2', c2', dn2, dp2, dr2, dz2, dc2, hl2, pw2, hb2⟩ := bl2.ext eH
      have sRH := eH _ _ ti.sR
      have sWH := eH _ _ sW
      have len1 := congrArg List.length hl1
      have len2 := congrArg List.length hl2
      simp only [List.length_append, List.length_cons, List.length_nil] at len1 len2
      show gName 8 (V.int (0 + (j : Int))) _ _ _
      rw [hz0]
      refine ⟨_, rfl, _, rfl, LW, _, (j : Int), xj, rfl, rfl, SqL.of sWH, atI_nat hxj, xj, dj, rfl, hwj, shj.s, Nat.le_trans shj.z (by rw [sizeLine_eq]; decide), shj.p, le_line (by simp), fun D9 hD9 => ?_⟩
      have f0 := Evl.Ex.new (o := .lst [.str dj.shown, .bl true]) hD9
      have sD : (upd HH D9 (.lst [.str dj.shown, .bl true])) D9 = some (.lst [.str dj.shown, .bl true]) := upd_same
      replace sRH := f0 _ _ sRH
      replace sWH := f0 _ _ sWH
      replace hwj := hwj.ext f0
      replace pw1 := pw1.ext f0
      replace pw2 := pw2.ext f0
      have eH1 := eH.trans f0
      clear eH f0
      generalize (upd HH D9 (.lst [.str dj.shown, .bl true])) = HI at sD sRH sWH hwj pw1 pw2 eH1
      refine ⟨_, rfl, _, rfl, _, rfl, R, _, rfl, SqL.of sRH, fun q1 hq1 => ⟨_, rfl, _, rfl, _, rfl, ?_⟩⟩
      dsimp only [tNoPart]
      have f1 := Evl.Ex.new (o := .lst (cutV [.str "m", .ref pl, .str r, .int sz, .ref cl] none (some (j : Int)))) hq1
      refine ⟨LW, _, rfl, SqL.of (f1 _ _ sWH), fun q2 hq2 => ?_⟩
      have f2 := Evl.Ex.new (o := .lst (cutV [x0, x1, x2, x3, x4] (some (j : Int)) none)) hq2
      refine ⟨q1, q2, _, _, rfl, rfl, f2 _ _ upd_same, upd_same, le_line (by omega), fun q3 hq3 => ?_⟩
      have f3 := Evl.Ex.new (o := .lst (cutV [.str "m", .ref pl, .str r, .int sz, .ref cl] none (some (j : Int)) ++ cutV [x0, x1, x2, x3, x4] (some (j : Int)) none)) hq3
      have f13 := (f1.trans f2).trans f3
      refine ⟨q3, n1', p1', r1', z1', c1', dn1, dp1, dr1, dz1, dc1, rfl, by rw [upd_same, hl1], pw1.ext f13, fun y hy => ?_, fun hno => by rw [hb1] at hno; cases hno⟩
      rw [hb1] at hy
      cases hy
      refine ⟨dj, hwj.ext f13, shj, fun q4 HJ f4 s4 => ?_⟩
      have f14 := f13.trans f4
      refine ⟨_, rfl, .list [.str dj.shown, .bool true], .list [.str dj.shown, .bool true], dp_of (.lst s4 (.cons (.str _) (.cons (.bl _) .nil))) (shp _ stj).2, dp_of (.lst (f14 _ _ sD) (.cons (.str _) (.cons (.bl _) .nil))) (shp _ stj).2, (shp _ stj).1, (shp _ stj).1, _, rfl, ?_⟩
      rw [PySem.SeqAt.eqv_refl _ (shp _ stj).2]
      refine iteF ?_
      replace sRH := f14 _ _ sRH
      replace sWH := f14 _ _ sWH
      replace hwj := hwj.ext f14
      replace pw2 := pw2.ext f14
      replace sD := f14 _ _ sD
      have eH2 := eH1.trans f14
      clear f1 f2 f3 f4 f13 f14 eH1 s4 hq1 hq2 hq3
      refine ⟨_, rfl, _, rfl, _, rfl, R, _, rfl, SqL.of sRH, fun q1 hq1 => ?_⟩
      have f1 := Evl.Ex.new (o := .lst (cutV [.str "m", .ref pl, .str r, .int sz, .ref cl] none (some (j : Int)))) hq1
      refine ⟨_, rfl, _, rfl, LW, _, (j : Int), xj, rfl, rfl, SqL.of (f1 _ _ sWH), atI_nat hxj, le_line (by simp), fun q2 hq2 => ?_⟩
      have f2 := Evl.Ex.new (o := .lst [xj]) hq2
      refine ⟨q1, q2, _, _, rfl, rfl, f2 _ _ upd_same, upd_same, le_line (by rw [List.length_singleton]; omega), fun q3 hq3 => ?_⟩
      have f3 := Evl.Ex.new (o := .lst (cutV [.str "m", .ref pl, .str r, .int sz, .ref cl] none (some (j : Int)) ++ [xj])) hq3
      refine ⟨_, rfl, _, rfl, _, _, rfl, rfl, _, rfl, ?_⟩
      dsimp only [tNoPart]
      refine ⟨R, _, rfl, SqL.of (f3 _ _ (f2 _ _ (f1 _ _ sRH))), fun q4 hq4 => ?_⟩
      have f4 := Evl.Ex.new (o := .lst (cutV [.str "m", .ref pl, .str r, .int sz, .ref cl] (some ((j : Int) + 1)) none)) hq4
      refine ⟨q3, q4, _, _, rfl, rfl, f4 _ _ upd_same, upd_same, le_line (by rw [List.length_append, List.length_singleton]; omega), fun q5 hq5 => ?_⟩
      have f5 := Evl.Ex.new (o := .lst ((cutV [.str "m", .ref pl, .str r, .int sz, .ref cl] none (some (j : Int)) ++ [xj]) ++ cutV [.str "m", .ref pl, .str r, .int sz, .ref cl] (some ((j : Int) + 1)) none)) hq5
      have f15 := (((f1.trans f2).trans f3).trans f4).trans f5
      refine ⟨q5, n2', p2', r2', z2', c2', dn2, dp2, dr2, dz2, dc2, rfl, by rw [upd_same, hl2], pw2.ext f15, fun y hy => ?_, fun hno => by rw [hb2] at hno; cases hno⟩
      rw [hb2] at hy
      cases hy
      refine ⟨dj, hwj.ext f15, shj, fun q6 HK f6 s6 => ?_⟩
      have f16 := f15.trans f6
      refine ⟨_, rfl, .list [.str dj.shown, .bool true], .list [.str dj.shown, .bool true], dp_of (.lst s6 (.cons (.str _) (.cons (.bl _) .nil))) (shp _ stj).2, dp_of (.lst (f16 _ _ sD) (.cons (.str _) (.cons (.bl _) .nil))) (shp _ stj).2, (shp _ stj).1, (shp _ stj).1, _, rfl, ?_⟩
      rw [PySem.SeqAt.eqv_refl _ (shp _ stj).2]
      exact iteF ⟨eH2.trans f16, _, _, rfl⟩
    · rintro σ HH ⟨eH, v8, v9, rfl⟩
      have lH := Lx.of ti.lx.sc eH
      replace sK := lH.at sK npk
      replace ti := ti.ext ta lH
      clear eH lH sW
      refine ⟨_, rfl, _, rfl, .ref x, R, .ref pl, .ref cl, ps, r, sz, cd, rfl, ti.sR, (ti.zpl ta).q, (ti.zcl ta).q, ti.meth ta, pp, hz6, fun HI eI => ⟨_, rfl, iteF ?_⟩⟩
      have lI := Lx.of ti.lx.sc eI
      replace sK := lI.at sK npk
      replace ti := ti.ext ta lI
      refine ⟨_, rfl, _, rfl, x, dx, _, kp, rfl, rfl, ti.mx, .inr ⟨_, sK⟩, .ref x, .ref kp, .tuple (dataM "m" ps r sz cd), rfl, ti.meth ta, pp.shaped, .inr ⟨kp, _, rfl, sK, fun HJ eJ => ⟨_, rfl, _, rfl, iteF ?_⟩⟩⟩
      have lJ := Lx.of ti.lx.sc eJ
      replace ti := ti.ext ta lJ
      have okR := pp.ok (ti.zpl ta).q (ti.zcl ta).q
      refine ⟨_, rfl, R, .str "m", .ref pl, .str r, .int sz, .ref cl, _, _, _, _, _, rfl, ti.sR, okR.w.1, (fun y hy => by rw [okR.w.2] at hy; cases hy), fun _ HK eK => ⟨rfl, _, rfl, iteF ?_⟩⟩
      have lK := Lx.of ti.lx.sc eK
      replace ti := ti.ext ta lK
      refine ⟨_, rfl, x, dx, _, rfl, ti.mx, x, dx, _, .ref pa, rfl, ti.mx, rfl, _, _, rfl, .inr ⟨_, SqT.of ti.pt, rfl⟩, _, _, rfl, rfl, _, rfl, x, dx, _, rfl, ti.mx, x, dx, _, .int sz, rfl, ti.mx, rfl, _, _, rfl, rfl, _, rfl, ?_⟩
      have hs0 := pp.s0
      rw [decide_eq_false (by omega)]
      exact iteF ⟨back _ ti.lx, _, _, _, _, _, _, _, _, _, rfl⟩
end
end K03
set_option Elab.async false
set_option linter.all false
set_option maxRecDepth 100000
set_option maxHeartbeats 0
namespace EX2
open PySem PySem.Spec PyProof.Rows L2
theorem SuF.binds {P : Program} {K : PySem.W.Frag} {qual : Str} {st : Stmt} {C f : Addr} {fd : FuncData} {ps : List Str} (F : SuF P K qual st C f fd)
    (h : ∀ (doc pm ctv : Value) (cc c : Addr) (us : List Value), us.length = ps.length → bindArgs ((NdefX.NF.mk "__init__" qual (defArgs st) (defBody st) (defScope st) [("__class__", cc)] c).fd doc pm ctv) ⟨us, []⟩ = pure (ps.zip us)) : Binds K fd ps [] := by
  obtain ⟨oc, od, osl, doc, pm, ctv, cc, c, ocl, occ, vs, file, tf, rfl, _⟩ := F.ex
  exact .all (h doc pm ctv cc c)
theorem any_free {K : PySem.W.Frag} (hb : bltB K = true) : PySem.W.nsIn K cStatics "thirdparty.any" = some none := by
  unfold bltB at hb
  simp only [Bool.and_eq_true] at hb
  exact He.eqO_ok hb.2.2.1
end EX2
namespace K03
open PySem PySem.Spec PyProof.Rows L2
abbrev PP : Program := RW.prog
theorem htop : (PP.main.scope.names.lookup ("super" : Str)).isSome = false := by decide +kernel
theorem facts {w : World} {K : PySem.W.Frag} {h : Heap} {mg : Str → Option Value} {f : Addr} (X : K.In h) (G : h.Ns mainGlobals mg) (hfa : mg ("law" : Str) = some (.ref f)) (c : EX2.SaysZ fa fn ts xs pds ex w K) :
    ∃ fd : FuncData, (∀ (s : Shared) (v : Value), BindsTo s fd ⟨[v], []⟩ [("_law_script", v)]) ∧ ∀ base : Heap, K.In base → base.Ns mainGlobals mg → EX2.FnOkG PP w K mg base 11 f fd ["_law_script"] (spLaw K) := by
  have d := c.t.d
  have hx := c.more
  unfold ex at hx
  obtain ⟨hTab, hx⟩ := Bool.and_eq_true_iff.mp hx
  obtain ⟨hProp, hx⟩ := Bool.and_eq_true_iff.mp hx
  obtain ⟨hx, hIns⟩ := Bool.and_eq_true_iff.mp hx
  obtain ⟨hb, hx⟩ := Bool.and_eq_true_iff.mp hx
  obtain ⟨hnod, hC⟩ := Bool.and_eq_true_iff.mp hx
  have hB : EX2.bltB K = true := by
    have h2 := hb
    unfold EX2.sudB at h2
    rw [Bool.and_eq_true] at h2
    exact h2.1
  obtain ⟨f0, F0⟩ := d.def_ 0 (d := dfn "is_integer" 5) rfl
  obtain ⟨f1, F1⟩ := d.def_ 1 (d := dfn "is_in_range" 6) rfl
  obtain ⟨f2, F2⟩ := d.def_ 2 (d := dfn "is_name" 7) rfl
  obtain ⟨f3, F3⟩ := d.def_ 3 (d := dfn "is_type" 8) rfl
  obtain ⟨f4, F4⟩ := d.def_ 4 (d := dfn "is_sequence" 9) rfl
  obtain ⟨f5, F5⟩ := d.def_ 5 (d := dfn "fits" 15) rfl
  obtain ⟨f6, F6⟩ := d.def_ 6 (d := dfn "is_instruction" 16) rfl
  obtain ⟨f7, F7⟩ := d.def_ 7 (d := dfn "drawers_in" 17) rfl
  obtain ⟨f8, F8⟩ := d.def_ 8 (d := dfn "targets_in" 18) rfl
  obtain ⟨f9, F9⟩ := d.def_ 9 (d := dfn "is_code" 19) rfl
  obtain ⟨f10, F10⟩ := d.def_ 10 (d := dfn "is_size" 20) rfl
  obtain ⟨f11, F11⟩ := d.def_ 11 (d := dfn "_law_source" 23) rfl
  obtain ⟨f12, F12⟩ := d.def_ 12 (d := dfn "_law_draw" 24) rfl
  obtain ⟨f13, F13⟩ := d.def_ 13 (d := dfn "_law_pick" 25) rfl
  obtain ⟨f14, F14⟩ := d.def_ 14 (d := dfn "_law_type" 26) rfl
  obtain ⟨f15, F15⟩ := d.def_ 15 (d := dfn "_law_call" 27) rfl
  obtain ⟨f16, F16⟩ := d.def_ 16 (d := dfn "_law_made" 28) rfl
  obtain ⟨f17, F17⟩ := d.def_ 17 (d := dfn "_law_ready" 29) rfl
  obtain ⟨f18, F18⟩ := d.def_ 18 (d := dfn "_law_method" 30) rfl
  obtain ⟨f19, F19⟩ := d.def_ 19 (d := dfn "_law_refused" 31) rfl
  obtain ⟨f20, F20⟩ := d.def_ 20 (d := dfn "_law_codes" 32) rfl
  obtain ⟨f21, F21⟩ := d.def_ 21 (d := dfn "_law_wrongs" 33) rfl
  obtain ⟨f22, F22⟩ := d.def_ 22 (d := dfn "_law_others_right" 34) rfl
  obtain ⟨f23, F23⟩ := d.def_ 23 (d := dfn "law" 35) rfl
  have e := hfa.symm.trans (He.glo_ok X G (d.fact 6 (f := .glo "law") rfl))
  cases e
  obtain ⟨fI, FI⟩ := d.def_ 24 (d := mth "Method" "__init__" "Method.__init__" 21 0) rfl
  obtain ⟨fPa, FPa⟩ := d.def_ 25 (d := mth "Method" "parts" "Method.parts" 21 6) rfl
  obtain ⟨fEq, FEq⟩ := d.def_ 26 (d := mth "Method" "__eq__" "Method.__eq__" 21 7) rfl
  have cl : Cls K (He.ga K "Method") := He.cls_ok (d.fact 8 (f := .cls "Method") rfl)
  have gS := He.free_ok X G (d.fact 51 (f := .free "super") rfl)
  have T : Txt K mg := ⟨He.free_ok X G (d.fact 37 (f := .free "isinstance") rfl), He.free_ok X G (d.fact 38 (f := .free "len") rfl), He.free_ok X G (d.fact 39 (f := .free "all") rfl), He.free_ok X G (d.fact 43 (f := .free "str") rfl), He.free_ok X G (d.fact 48 (f := .free "max") rfl), He.free_ok X G (d.fact 49 (f := .free "min") rfl), He.free_ok X G (d.fact 41 (f := .free "int") rfl), He.free_ok X G (d.fact 47 (f := .free "range") rfl), He.free_ok X G (d.fact 45 (f := .free "tuple") rfl), He.free_ok X G (d.fact 40 (f := .free "any") rfl), He.free_ok X G (d.fact 42 (f := .free "bool") rfl), He.free_ok X G (d.fact 44 (f := .free "list") rfl), He.free_ok X G (d.fact 46 (f := .free "zip") rfl)⟩
  have D : Defs w K mg := ⟨T, He.str_ok X G (d.fact 0 (f := .str "LETTERS" "abcdefghijklmnopqrstuvwxyz") rfl), He.int_ok X G (d.fact 1 (f := .int "MOST_CODE" 40) rfl), He.int_ok X G (d.fact 2 (f := .int "MOST_SIZE" 10) rfl), He.int_ok X G (d.fact 3 (f := .int "MOST_PARAMS" 4) rfl),
    He.glo_ok X G (d.fact 4 (f := .glo "FORMS") rfl), c.t.tab 0, fun z => EX2.tab_look hTab z,
    ⟨_, f0, He.glo_ok X G (d.fact 14 (f := .glo "is_integer") rfl), F0⟩,
    ⟨_, f1, He.glo_ok X G (d.fact 15 (f := .glo "is_in_range") rfl), F1⟩,
    ⟨_, f2, He.glo_ok X G (d.fact 16 (f := .glo "is_name") rfl), F2⟩,
    ⟨_, f3, He.glo_ok X G (d.fact 17 (f := .glo "is_type") rfl), F3⟩,
    ⟨_, f4, He.glo_ok X G (d.fact 18 (f := .glo "is_sequence") rfl), F4⟩,
    ⟨_, f5, He.glo_ok X G (d.fact 19 (f := .glo "fits") rfl), F5⟩,
    ⟨_, f6, He.glo_ok X G (d.fact 20 (f := .glo "is_instruction") rfl), F6⟩,
    ⟨_, f7, He.glo_ok X G (d.fact 21 (f := .glo "drawers_in") rfl), F7⟩,
    ⟨_, f8, He.glo_ok X G (d.fact 22 (f := .glo "targets_in") rfl), F8⟩,
    ⟨_, f9, He.glo_ok X G (d.fact 23 (f := .glo "is_code") rfl), F9⟩,
    ⟨_, f10, He.glo_ok X G (d.fact 24 (f := .glo "is_size") rfl), F10⟩,
    ⟨_, f11, He.glo_ok X G (d.fact 25 (f := .glo "_law_source") rfl), F11⟩,
    ⟨_, f12, He.glo_ok X G (d.fact 26 (f := .glo "_law_draw") rfl), F12⟩,
    ⟨_, f13, He.glo_ok X G (d.fact 27 (f := .glo "_law_pick") rfl), F13⟩,
    ⟨_, f14, He.glo_ok X G (d.fact 28 (f := .glo "_law_type") rfl), F14⟩,
    ⟨_, f15, He.glo_ok X G (d.fact 29 (f := .glo "_law_call") rfl), F15⟩,
    ⟨_, f16, He.glo_ok X G (d.fact 30 (f := .glo "_law_made") rfl), F16⟩,
    ⟨_, f17, He.glo_ok X G (d.fact 31 (f := .glo "_law_ready") rfl), F17⟩,
    ⟨_, f18, He.glo_ok X G (d.fact 32 (f := .glo "_law_method") rfl), F18⟩⟩
  have M : MethF K mg := ⟨He.glo_ok X G (d.fact 5 (f := .glo "Method") rfl), He.mkr_ok (d.fact 7 (f := .mkr "Method") rfl), cl, He.noat_ok (d.fact 9 (f := .noat "Method" "own_name") rfl), He.noat_ok (d.fact 10 (f := .noat "Method" "own_params") rfl), He.noat_ok (d.fact 11 (f := .noat "Method" "own_result") rfl), He.noat_ok (d.fact 12 (f := .noat "Method" "own_size") rfl), He.noat_ok (d.fact 13 (f := .noat "Method" "own_code") rfl), He.meth_ok (d.fact 54 (f := .meth "Method" "parts") rfl), He.meth_ok (d.fact 55 (f := .meth "Method" "__eq__") rfl), ⟨fPa, FPa⟩, ⟨fEq, FEq⟩, ⟨fI, FI⟩⟩
  obtain ⟨g, fdX, FX⟩ := EX2.sud_at (P := PP) hb c.sup 0 (d := sd "InvalidMethod" "InvalidMethod.__init__" 2 ["given"]) rfl
  have b := FunD.bindsA (ps := ["_law_script"]) F23 fun _ _ _ _ _ _ us hl => match us, hl with | [_], _ => rfl
  refine ⟨f23, fun s v => b s [v] rfl, fun base KB _ => ?_⟩
  have XF : ExcF PP w K mg base := ⟨He.glo_ok X G (d.fact 52 (f := .glo "InvalidMethod") rfl), He.glo_ok X G (d.fact 53 (f := .glo "ClassError") rfl), g, ⟨fdX, EX2.ok_x1 FX g.t (g.no _ (List.mem_singleton.mpr rfl)) rfl (NdefX.nscope_by (by decide +kernel)) rfl rfl g.su g.self (EX2.any_free hB) rfl gS htop (by decide) (by decide),
    FX.binds fun _ _ _ _ _ us hl => match us, hl with | [_, _], _ => rfl⟩, hC⟩
  have IF : EX2.InsF K (He.ga K "Method") := by
    have hi := hIns
    unfold insB at hi
    rw [Bool.and_eq_true, Bool.and_eq_true] at hi
    have hb2 := hB
    unfold EX2.bltB at hb2
    rw [Bool.and_eq_true, Bool.and_eq_true] at hb2
    exact ⟨He.eqO_ok hi.1, He.eqO_ok hb2.1, of_decide_eq_true hb2.2.1, of_decide_eq_true hi.2.1, of_decide_eq_true hi.2.2⟩
  obtain ⟨fG0, FG0⟩ := c.path 0 (d := pd "name" "Method.name" 1) rfl
  have g1 : GetP PP w K mg base "name" "own_name" := ⟨EX2.propB_ok (List.all_eq_true.mp hProp "name" (by simp)), fG0, EX2.ok_get (N := ["self"]) FG0 ⟨rfl, rfl, rfl, by decide +kernel, rfl, by decide +kernel, by decide +kernel⟩ rfl (by rfl) cl (He.noat_ok (d.fact 9 (f := .noat "Method" "own_name") rfl)), FunD.bindsN FG0 fun _ _ _ _ _ _ us hl => match us, hl with | [_], _ => rfl⟩
  obtain ⟨fG1, FG1⟩ := c.path 1 (d := pd "params" "Method.params" 2) rfl
  have g2 : GetP PP w K mg base "params" "own_params" := ⟨EX2.propB_ok (List.all_eq_true.mp hProp "params" (by simp)), fG1, EX2.ok_get (N := ["self"]) FG1 ⟨rfl, rfl, rfl, by decide +kernel, rfl, by decide +kernel, by decide +kernel⟩ rfl (by rfl) cl (He.noat_ok (d.fact 10 (f := .noat "Method" "own_params") rfl)), FunD.bindsN FG1 fun _ _ _ _ _ _ us hl => match us, hl with | [_], _ => rfl⟩
  obtain ⟨fG2, FG2⟩ := c.path 2 (d := pd "result" "Method.result" 3) rfl
  have g3 : GetP PP w K mg base "result" "own_result" := ⟨EX2.propB_ok (List.all_eq_true.mp hProp "result" (by simp)), fG2, EX2.ok_get (N := ["self"]) FG2 ⟨rfl, rfl, rfl, by decide +kernel, rfl, by decide +kernel, by decide +kernel⟩ rfl (by rfl) cl (He.noat_ok (d.fact 11 (f := .noat "Method" "own_result") rfl)), FunD.bindsN FG2 fun _ _ _ _ _ _ us hl => match us, hl with | [_], _ => rfl⟩
  obtain ⟨fG3, FG3⟩ := c.path 3 (d := pd "size" "Method.size" 4) rfl
  have g4 : GetP PP w K mg base "size" "own_size" := ⟨EX2.propB_ok (List.all_eq_true.mp hProp "size" (by simp)), fG3, EX2.ok_get (N := ["self"]) FG3 ⟨rfl, rfl, rfl, by decide +kernel, rfl, by decide +kernel, by decide +kernel⟩ rfl (by rfl) cl (He.noat_ok (d.fact 12 (f := .noat "Method" "own_size") rfl)), FunD.bindsN FG3 fun _ _ _ _ _ _ us hl => match us, hl with | [_], _ => rfl⟩
  obtain ⟨fG4, FG4⟩ := c.path 4 (d := pd "code" "Method.code" 5) rfl
  have g5 : GetP PP w K mg base "code" "own_code" := ⟨EX2.propB_ok (List.all_eq_true.mp hProp "code" (by simp)), fG4, EX2.ok_get (N := ["self"]) FG4 ⟨rfl, rfl, rfl, by decide +kernel, rfl, by decide +kernel, by decide +kernel⟩ rfl (by rfl) cl (He.noat_ok (d.fact 13 (f := .noat "Method" "own_code") rfl)), FunD.bindsN FG4 fun _ _ _ _ _ _ us hl => match us, hl with | [_], _ => rfl⟩
  exact ok_law F23 ⟨D, M, XF, IF, EX2.sysD_of hB KB, He.free_ok X G (d.fact 50 (f := .free "repr") rfl), ⟨_, f19, He.glo_ok X G (d.fact 33 (f := .glo "_law_refused") rfl), F19⟩, ⟨_, f20, He.glo_ok X G (d.fact 34 (f := .glo "_law_codes") rfl), F20⟩, ⟨_, f21, He.glo_ok X G (d.fact 35 (f := .glo "_law_wrongs") rfl), F21⟩, ⟨_, f22, He.glo_ok X G (d.fact 36 (f := .glo "_law_others_right") rfl), F22⟩, g1, g2, g3, g4, g5⟩
end K03
open PySem PySem.W PySem.Calls PyProof.Rows
theorem PySem.Challenge.cw_lateclasses_k03_methods_made_holds : PySem.Challenge.rw_lateclasses_k03_methods_made.Holds := by
  w_on; o_law
  refine HandSHeadRun.head_any (r := OpenLaw.row K03.RW) (q := view (OpenLaw.row K03.RW).prog [35]) (H := K03.hk) (ob := K03.ob) (M := 6000) (loose := K03.loose) (d := HandSHeadRun.topDef (OpenLaw.row K03.RW).prog 35) (kwd := []) K03.ob_eq
    (by kernel_rfl) (fun s => by kernel_rfl) K03.run (by kernel_rfl) (by kernel_rfl) (by kernel_rfl) (by rfl) (by first | assumption | decide +kernel) (by decide +kernel) ⟨rfl, rfl, rfl, rfl, rfl, by decide +kernel⟩ ?hw ?hc
  case hw => w_witness2
  case hc =>
    refine EX2.walk_ofG (l := K03.RW) (n := 63) (k := 11) (x := "_law_script") rfl (by decide) (by kernel_rfl) ⟨rfl, by decide, by decide⟩ ?F
    intro w mg fa h Y G hmg0
    obtain ⟨K, KX, c⟩ := Y
    have hmg : mg ("law" : PySem.Str) = some (.ref fa) := by
      have e : (HandSHeadRun.topDef (OpenLaw.row K03.RW).prog 35).name = ("law" : PySem.Str) := by kernel_rfl
      rw [← e]
      exact hmg0
    obtain ⟨fd, hb, hF⟩ := K03.facts (w := w) KX G hmg c
    exact ⟨K, fd, K03.spLaw K, KX, hb, fun H a ns hl _ hS => ⟨a, ns, rfl, hS, hl, fun _ => rfl⟩, hF⟩
