import PyProof.Rows.All
import Wide.All
import OpenK.AllK
import Wide.FinOn
import KE.KFromBytes
import KE.KSuper
import KE.KExcInit
import KE.KExcLine
import HandS.ForMost
import HandS.Words
import HandS.Defaults
import HandS.Exc
import HandS.ExcInit
import HandS.ExcSuper
import HandS.ExcIs
import HandS.ExcField
import HandS.IsInst
import HandS.Nested
import HandS.Evl
import PyProof.ReprRoads
import PyProof.CallFns
import HandS.HeadEnd
import HandS.HeadHook1
import HandS.HeadHook2
import HandS.HeadHook3
import HandS.HeadHook4
import KE.KStateDown
import Lean
import HandS.Head0
import HandS.Head1
import HandS.Head2
import HandS.Text
import HandS.Walk
import HandS.Wide
import PySem.Challenge.RW_lateclasses_k30_exceptions
set_option Elab.async false
set_option linter.all false
set_option maxRecDepth 100000
set_option maxHeartbeats 2000000
/-! own exceptions over an own class over Exception, whose __init__ says super().__init__(text) and stores its arguments -/
namespace EX2
open PySem PySem.Spec PyProof.Rows L2
abbrev bmE : List Value := [.type "Exception", .type "BaseException", .type "object"]
/-- what the written part says of such a class -/
structure ExK (K : PySem.W.Frag) (C : Addr) : Prop where
  init : PySem.W.excInitIn K C bmE "Exception.__new__" = true
  over : PySem.W.excOver K C bmE = true
  hdC : PySem.W.hasDictIn K C = true
  sa : PySem.W.findIn K (.ref C) "__setattr__" = some (some (.builtin "object.__setattr__"))
  exC : PySem.W.subIn K (.ref C) (.type "BaseException") = some true
  exE : PySem.W.subIn K (.ref C) (.type "Exception") = some true
  tyC : PySem.W.typeIn K (.ref C) = some (.type "type")
  kC : PySem.W.keepIn K (.ref C) = true
section
open PySem.W PySem.Calls
open Builtin Builtin.ObjectAttr
variable {prog : Program} {w : World} {A : Around} {E : Value → Shared → Prop} {R : Result → Shared → Prop} {hp : Heap} {g : Array GenState} {d : Drawn} {t : Nat} {os : OsState}
theorem taker_none {K : PySem.W.Frag} {C : Addr} {name : Str} (ha : PySem.W.findIn K (.ref C) name = some none) : PySem.W.takerIn K C name = some none := by
  unfold PySem.W.takerIn
  rw [ha]
  rfl
theorem osa_new {K : PySem.W.Frag} {name : Str} {tk : Tok} {v : Value} {x C : Addr} {fv : Array Value} (T : ExK K C)
    (X : K.In hp) (hx : hp.get? x = some { cls := .ref C, data := .fields fv }) (ha : PySem.W.findIn K (.ref C) name = some none)
    (hq : ∀ h' tk' dx, (∀ b o, b ≠ x → hp.get? b = some o → h'.get? b = some o) → hp.objs.size ≤ dx → dx ≠ x → h'.get? x = some { cls := .ref C, dict := some dx, data := .fields fv } →
      h'.Ns1 dx (fun y => if y = name then some v else none) → R (.ok (.ret .none)) ⟨h', g, d, tk', os⟩) :
    codeAny (model prog w) A (.call (.builtin "object.__setattr__") ⟨[.ref x, .str name tk, v], []⟩) R ⟨hp, g, d, t, os⟩ := by
  have I : PySem.W.InstAt hp x { cls := .ref C, data := .fields fv } C none := ⟨hx, rfl, rfl, trivial⟩
  have hxs : x ≠ hp.objs.size := Nat.ne_of_lt (Heap.lt_size hx)
  refine PySem.W.osa_openX F.store_Exception (s := ⟨hp, g, d, t, os⟩) X I T.over (taker_none ha) fun b => ?_
  obtain ⟨cd, hcd, hh⟩ := PySem.W.any_some T.hdC
  have hcls : PySem.W.Looks (model prog w) hp (classData C) cd := PySem.W.looks_clsIn X hcd
  obtain ⟨nm, bs, mro, ns, qn, hd, sn, sb, ab, col, del⟩ := cd
  dsimp only at hh
  subst hh
  show wpAny _ _ (storeInOwnDict (.ref x) (.ref C) (.str name tk) name v b) _ _ _
  unfold storeInOwnDict ownDictForStores
  repeat (first | with_reducible refine HandSPX.store_in_new ?_ ?_ | with_reducible refine wpAny_loadPart_at hx ?_ | with_reducible refine hcls.at ?_ | wp_step)
  · exact ⟨_, #[], _, (Heap.get?_update_ne _ _ _ _ hxs.symm).trans (Heap.get?_push_at rfl rfl), rfl, fun e he => absurd he (by simp), fun _ => rfl⟩
  · intro h' tk' hn' hs
    have hx₁ : (hp.push { cls := .type "dict", data := .dict #[] }).get? x = some { cls := .ref C, data := .fields fv } := Heap.get?_push_of_some _ hx
    refine hq h' tk' hp.objs.size (fun b o hb ho => ?_) (Nat.le_refl _) hxs.symm ?_ hn'
    · exact (hs.2 b (Nat.ne_of_lt (Heap.lt_size ho))).trans ((Heap.get?_update_ne _ _ _ _ hb).trans (Heap.get?_push_of_some _ ho))
    · exact (hs.2 x hxs).trans (Heap.get?_update_self _ hx₁ rfl)
theorem osa_old {K : PySem.W.Frag} {name : Str} {tk : Tok} {v : Value} {x C dx : Addr} {fv : Array Value} {m0 : Str → Option Value} {nl : List Str} (T : ExK K C)
    (X : K.In hp) (hx : hp.get? x = some { cls := .ref C, dict := some dx, data := .fields fv }) (hns : hp.Ns1 dx m0) (hw : Within m0 nl) (hz : nl.length ≤ 1000)
    (ha : PySem.W.findIn K (.ref C) name = some none)
    (hq : ∀ h' tk', (∀ b o, b ≠ dx → hp.get? b = some o → h'.get? b = some o) → h'.Ns1 dx (fun y => if y = name then some v else m0 y) → R (.ok (.ret .none)) ⟨h', g, d, tk', os⟩) :
    codeAny (model prog w) A (.call (.builtin "object.__setattr__") ⟨[.ref x, .str name tk, v], []⟩) R ⟨hp, g, d, t, os⟩ := by
  obtain ⟨oD, esD, epD, hoD, hdD, _⟩ := hns.count hw
  have I : PySem.W.InstAt hp x { cls := .ref C, dict := some dx, data := .fields fv } C (some oD) := ⟨hx, rfl, rfl, hoD⟩
  refine PySem.W.osa_openX F.store_Exception (s := ⟨hp, g, d, t, os⟩) X I T.over (taker_none ha) fun b => ?_
  obtain ⟨cd, hcd, hh⟩ := PySem.W.any_some T.hdC
  have hcls : PySem.W.Looks (model prog w) hp (classData C) cd := PySem.W.looks_clsIn X hcd
  obtain ⟨nm, bs, mro, ns, qn, hd, sn, sb, ab, col, del⟩ := cd
  dsimp only at hh
  subst hh
  show wpAny _ _ (storeInOwnDict (.ref x) (.ref C) (.str name tk) name v b) _ _ _
  unfold storeInOwnDict ownDictForStores
  repeat (first | with_reducible refine ESX.store_in_old hns hw hz ?_ | with_reducible refine wpAny_loadPart_at hx ?_ | with_reducible refine hcls.at ?_ | wp_step)
  intro h' tk' hn' hs
  exact hq h' tk' (fun b o hb ho => (hs.2 b hb).trans ho) hn'
end
end EX2
set_option Elab.async false
set_option linter.all false
set_option maxRecDepth 100000
set_option maxHeartbeats 2000000
namespace EX2
open PySem PySem.Spec PyProof.Rows L2
section
variable {X : Cx} {pins : List (Addr × Obj)} {σ : L2.St} {H : Hp} {s : Shared} {a C dx : Addr} {f : Str} {y : V} {u : Value} {fs : List (Str × V)} {Q : Unit → Shared → Prop} {E : Value → Shared → Prop} {A : Around}
/-- self.f = y, the first one -/
theorem ost_new (T : ExK X.K C) (I : Inv X pins σ H s) (e : H a = some (exo a C none)) (hno : PySem.W.findIn X.K (.ref C) f = some none) (ry : RelV y u)
    (h : ∀ dx s', H dx = none → dx ≠ a → Inv X pins σ (upd (upd H dx (exd dx [(f, y)])) a (exo a C (some dx))) s' → Q () s') : wpAny (model X.prog X.w) A (setAttr (.ref a) f u) Q E s := by
  obtain ⟨t1, ho⟩ := exo_at I.hok e
  obtain ⟨hp, g, d, t, os⟩ := s
  refine PySem.W.set_plain I.kIn (ox := { cls := .ref C, dict := none, data := .fields #[.ref t1, .none, .none, .none, .bool false, .none] }) (od := none) ⟨ho, rfl, rfl, trivial⟩ T.sa ?_
  refine EX2.osa_new T I.kIn ho hno (fun h' tk' dx k dn dne hx hn => ?_)
  have hnd : H dx = none := I.hok.fresh dn
  have nd : ∀ {b : Addr} {o : Obj}, hp.get? b = some o → b ≠ dx := fun {b o} q => Nat.ne_of_lt (Nat.lt_of_lt_of_le (Heap.lt_size q) dn)
  have na : ∀ {b : Addr}, H b = none → b ≠ a := fun {b} n z => by
    rw [z, e] at n
    cases n
  have Un1 : Un X.fs [] H (upd (upd H dx (exd dx [(f, y)])) a (exo a C (some dx))) hp h' := {
    keep := fun b o q n _ _ => k b o (na n) q
    slot := fun b o q n _ _ => ⟨o.slots, k b o (na n) q⟩
    free := fun b o q n _ => by rw [upd_ne (na n), upd_ne (nd q)]; exact n
    there := fun b o q _ => by
      by_cases hb : b = a
      · exact ⟨_, by rw [hb]; exact hx⟩
      · exact ⟨o, k b o hb q⟩
    tups := fun b xs q => by rw [upd_ne (at_ne e q exo_tup), upd_ne (ne_of_none q hnd)]; exact q
    frzs := fun b o v q => by rw [upd_ne (at_ne e q exo_frz), upd_ne (ne_of_none q hnd)]; exact q
    tbls := fun b ps q => ⟨#[], by rw [upd_ne (at_ne e q exo_tbl), upd_ne (ne_of_none q hnd), q]; simp⟩ }
  refine h dx _ hnd dne (I.un (t' := tk') Un1 fun b o q => ?_)
  by_cases hb : b = a
  · subst hb
    rw [upd_same] at q
    cases q
    exact exo_ok hx
  · rw [upd_ne hb] at q
    by_cases hd : b = dx
    · subst hd
      rw [upd_same] at q
      cases q
      exact exd_ok hn (relO_put (fs := []) ry fun g => True.intro)
    · rw [upd_ne hd] at q
      exact (I.hok b o q).stay (fun c v hc z => k c v (by
          rcases hc with hc | hc
          · rw [hc]
            exact hb
          · exact at_ne e hc exo_own) z)
        (fun c hc => by rw [upd_ne (at_ne e hc exo_own), upd_ne (ne_of_none hc hnd)]; exact hc) (fun c xs hc => by rw [upd_ne (at_ne e hc exo_tup), upd_ne (ne_of_none hc hnd)]; exact hc)
/-- self.f = y, a further one -/
theorem ost_old (T : ExK X.K C) (I : Inv X pins σ H s) (e : H a = some (exo a C (some dx))) (ed : H dx = some (exd dx fs)) (hl : fs.length ≤ 900) (hno : PySem.W.findIn X.K (.ref C) f = some none) (ry : RelV y u)
    (h : ∀ s', Inv X pins σ (upd H dx (exd dx ((f, y) :: fs))) s' → Q () s') : wpAny (model X.prog X.w) A (setAttr (.ref a) f u) Q E s := by
  obtain ⟨t1, ho⟩ := exo_at I.hok e
  obtain ⟨mA, hns, rel⟩ := exd_at I.hok ed
  have hw := within_of rel
  obtain ⟨hp, g, d, t, os⟩ := s
  obtain ⟨oD, _, _, hoD, _, _⟩ := hns.count hw
  refine PySem.W.set_plain I.kIn (ox := { cls := .ref C, dict := some dx, data := .fields #[.ref t1, .none, .none, .none, .bool false, .none] }) (od := some oD) ⟨ho, rfl, rfl, hoD⟩ T.sa ?_
  refine EX2.osa_old T I.kIn ho hns hw (by rw [List.length_map]; omega) hno (fun h' tk' k hn => ?_)
  have hd : ∃ o, h'.get? dx = some o := by
    obtain ⟨o, _, _, e', _⟩ := hn
    exact ⟨o, e'⟩
  exact h _ (I.write (t' := tk') (x := dx) (e := dx) (o := exd dx ((f, y) :: fs)) (by rw [ed]; exact True.intro) (.inl rfl) k hd (exd_ok hn (relO_put ry rel)))
end
/-- o.f = v, o an exception that is being made -/
def gOst (K : PySem.W.Frag) (f : Str) (to : TE) : TG := fun y σ H Q => to σ H fun x H2 => ∃ a C : Addr, x = .ref a ∧ ExK K C ∧ PySem.W.findIn K (.ref C) f = some none ∧
  ((H2 a = some (exo a C none) ∧ ∀ dx, H2 dx = none → dx ≠ a → Q σ (upd (upd H2 dx (exd dx [(f, y)])) a (exo a C (some dx)))) ∨
    ∃ (dx : Addr) (fs : List (Str × V)), H2 a = some (exo a C (some dx)) ∧ H2 dx = some (exd dx fs) ∧ fs.length ≤ 900 ∧ Q σ (upd H2 dx (exd dx ((f, y) :: fs))))
theorem pg_ost {X : Cx} {o : Expr} {to : TE} {f : Str} {p : Pos} (ho : PE X o to) : PG X (.Attribute o f p) (gOst X.K f to) := by
  refine ⟨fun pins s σ H v u Q I r h => ?_⟩
  refine PySem.W.kas_attr (thn (ho.run pins s σ H _ I h) fun ov s2 ⟨x, H2, I2, r2, a, C, ex, T, hno, q⟩ => ?_)
  subst ex
  obtain rfl : ov = Value.ref a := r2
  rcases q with ⟨ea, q⟩ | ⟨dx, fs, ea, ed, hl, q⟩
  · exact ost_new T I2 ea hno r fun dx s' n ne J => ⟨σ, _, J, q dx n ne⟩
  · exact ost_old T I2 ea ed hl hno r fun s' J => ⟨σ, _, J, q⟩
/-! ### the def with its cell -/
/-- such an __init__ as it stands behind the top -/
structure SuF (P : Program) (K : PySem.W.Frag) (qual : Str) (st : Stmt) (C f : Addr) (fd : FuncData) : Prop where
  ex : ∃ (oc : Value) (od : Option Addr) (osl : Array (Option Value)) (doc pm ctv : Value) (cc c : Addr) (ocl : Obj) (occ : Obj) (vs : Array Value) (file : Str) (tf : Tok),
    fd = (NdefX.NF.mk "__init__" qual (defArgs st) (defBody st) (defScope st) [("__class__", cc)] c).fd doc pm ctv ∧ K.lookup f = some ⟨oc, od, .func fd, osl⟩ ∧ PySem.W.codeIn K (.ref c) qual = true ∧
      K.lookup cc = some ocl ∧ ocl.data = .cell (some (.ref C)) ∧ K.lookup c = some occ ∧ occ.data = .fields vs ∧ vs[2]? = some (.str file tf) ∧ ((P.main.file : Str) == file) = true
  at_ : PySem.W.findIn K (.ref C) "__init__" = some (some (.ref f))
  ty : PySem.W.typeIn K (.ref f) = some (.type "function")
/-- what a made exception holds: fs its fields -/
def spX (C : Addr) (n : Nat) (fs : List V → List (Str × V)) : Sp := fun vs H Q _ => ∃ a xs, vs = .ref a :: xs ∧ xs.length = n ∧ H a = some (exo a C none) ∧
  ∀ (H' : Hp) (dx : Addr), (∀ b o, b ≠ a → H b = some o → H' b = some o) → H dx = none → dx ≠ a → H' a = some (exo a C (some dx)) → H' dx = some (exd dx (fs xs)) → Q .non H'
theorem two_ok : 2 ≤ sizeLine := by rw [sizeLine_eq]; decide
theorem type_super : bootBuiltins "super" = some (.type "super") := by kernel_rfl
section
variable {P : Program} {w : World} {K : PySem.W.Frag} {mg : Str → Option Value} {base : Heap} {f C : Addr} {fd : FuncData} {k : Nat}
theorem call_form {o : Expr} {name : Str} {apos pos : Pos} {e : Const} {j : Nat} {p3 : Pos} {env : Env} (hln : (apos.endLine == pos.line) = true) : eval (.Call (.Attribute o name apos) [.Constant e j p3] [] pos) env = (do
      let ov ← attributeBase o name env (eval o env)
      standAt apos.atName
      let (f, first) ← holding [ov] (getMethod ov name (do return (← importBound o env).getD true))
      callWith pos f first (backTo pos (starEach [.Constant e j p3] env)) []) := by
  have e1 : methodCallPos true o env apos pos = pure pos := by
    unfold methodCallPos
    rw [hln]
    rfl
  show (do
    let ov ← attributeBase o name env (eval o env)
    standAt apos.atName
    let (f, first) ← holding [ov] (getMethod ov name (do return (← importBound o env).getD true))
    let callPos ← methodCallPos true o env apos pos
    callWith callPos f first (backTo pos (starEach [.Constant e j p3] env)) []) = _
  rw [e1]
  rfl
theorem ok_xinit {qual : Str} {st : Stmt} {ps : List Str} {N : List Str} {msg : Str} {j : Nat} {p0 p1 p2 p3 p4 p5 : Pos} {rest : List Stmt} {n : Nat} {fs : List V → List (Str × V)} (F : SuF P K qual st C f fd) (T : ExK K C)
    (hb : defBody st = .Expr (.Call (.Attribute (.Call (.Name "super" p0) [] [] p1) "__init__" p2) [.Constant (.str msg) j p3] [] p4) p5 :: rest)
    (S : NdefX.NScope N (("self" : Str) :: ps) ["__class__"] (defScope st)) (hps : ps.length = n) (hks : (defScope st).names.lookup ("super" : Str) = some .globalImplicit)
    (har : ((defArgs st).posonlyargs ++ (defArgs st).args).head?.map (·.arg) = some (("self" : Str)))
    (hsu : PySem.W.ks_superIn K C C "__init__" = some (some (.builtin "Exception.__init__"))) (hmC : PySem.W.mroIn K C (.ref C) = some true) (hop : PySem.W.nsIn K cStatics "thirdparty.any" = some none)
    (hln : (p2.endLine == p4.line) = true) (gS : mg "super" = none) (htop : (P.main.scope.names.lookup ("super" : Str)).isSome = false)
    (hrest : ∀ (A : Around) (outer : List Env) (s : Shared) (H : Hp) (cc c : Addr) (a : Addr) (xs : List V) (Q : VK) (E : XK), xs.length = n → H a = some (exo a C none) →
      (∀ (H' : Hp) (dx : Addr), (∀ b o, b ≠ a → H b = some o → H' b = some o) → H dx = none → dx ≠ a → H' a = some (exo a C (some dx)) → H' dx = some (exd dx (fs xs)) → Q .non H') →
      ∃ t, PSs (NdefX.ncx CX0 P w K mg base N (NdefX.NF.mk "__init__" qual (defArgs st) (defBody st) (defScope st) [("__class__", cc)] c) f A outer s H E).nox rest t ∧ t { nx := fun _ H' => Q .non H', rt := Q } (NdefX.startF N (.ref a :: xs) [some (.ref C)]) H) :
    FnOk P w K mg base CX0 (k + 1) f fd (("self" : Str) :: ps) (spX C n fs) := by
  refine ⟨fun vs H Q E h => ?_, fun A outer s H args us vs Q E hr e0 hbi r hsp => ?_⟩
  · obtain ⟨a, xs, rfl, hl, _⟩ := h
    simp [hl, hps]
  · obtain ⟨oc, od, osl, doc, pm, ctv, cc, c, ocl, occ, fvs, file, tf, rfl, lk, hcd, lcc, dcc, lc, dc, hvs, hfile⟩ := F.ex
    have KX : K.In s.heap := e0.mod.kin.keeps fun b o e => (e0.bs b o e).1
    have lim : s.heap.NoLimit := e0.mod.nolimit.keeps fun b o e => (e0.bs b o e).1
    obtain ⟨a, xs, rfl, hl, ea, hQ⟩ := hsp
    have hvl : (V.ref a :: xs).length = (("self" : Str) :: ps).length := by simp [hl, hps]
    have gbase : ∀ {b : Addr} {o : Obj}, K.lookup b = some o → base.get? b = some o := fun e => e0.mod.kin _ _ e
    have hloc : ∀ x ∈ (("self" : Str) :: ps).zip us, (defScope st).names.lookup x.1 = some .local := fun ⟨n, v⟩ hy => S.par n (List.of_mem_zip hy).1
    refine ks_codeAny_call_defAt (binds := (("self" : Str) :: ps).zip us) hr.depth (KX _ _ lk) rfl lim (PySem.W.codeRec_of KX hcd) rfl hbi S.nocell hloc (fun h₁ hns kp => ?_) S.co S.gen S.kind
    have CA : NdefX.CellsAt [("__class__", cc)] ["__class__"] [some (.ref C)] s.heap H := by
      have hc0 : s.heap.get? cc = some ocl ∧ H cc = none := e0.bs _ _ (gbase lcc)
      refine ⟨rfl, fun y c' e => ?_, fun x y c' e1 e2 => ?_, fun i y hy => ?_⟩
      · have : c' = cc := by
          simp only [List.lookup] at e
          split at e
          · exact (Option.some.inj e).symm
          · cases e
        subst this
        exact ⟨hc0.2, _, ocl, hc0.1, dcc⟩
      · have one : ∀ z, List.lookup z [(("__class__" : Str), cc)] = some c' → z = "__class__" := fun z e => by
          simp only [List.lookup] at e
          split at e
          · rename_i q
            exact beq_iff_eq.mp q
          · cases e
        rw [one x e1, one y e2]
      · have : y = "__class__" := by
          cases i with
          | zero => exact (Option.some.inj hy).symm
          | succ i => simp at hy
        subst this
        refine ⟨cc, by simp [List.lookup], fun v hv => ?_⟩
        have : v = .ref C := by
          cases i with
          | zero => exact (Option.some.inj (Option.some.inj hv)).symm
          | succ i => simp at hv
        subst this
        exact ⟨_, rfl, ocl, hc0.1, dcc⟩
    have I : Inv (NdefX.ncx CX0 P w K mg base N (NdefX.NF.mk "__init__" qual (defArgs st) (defBody st) (defScope st) [("__class__", cc)] c) f A outer s H E) [] (NdefX.startF N (.ref a :: xs) [some (.ref C)]) H { s with heap := h₁, toks := s.toks + ((("self" : Str) :: ps).zip us).length } :=
      NdefX.inv_startN S hr.hd e0 hvl r CA hns kp
    have KX1 : K.In h₁ := KX.keeps kp
    obtain ⟨nm, Nn, qd, bs, bm, hdct, sn, sub, ab, col, dd, k0, k1, k2', k3', k5, hC1, hT⟩ := PySem.W.excInit_of KX1 T.init
    obtain ⟨t0, ho⟩ := exo_at I.hok ea
    obtain ⟨cdC, hclC, _⟩ := PySem.W.any_some T.hdC
    have hxC : a ≠ C := fun z => by
      rw [z] at ho
      rw [hC1] at ho
      cases ho
    obtain ⟨ar, har1, har2⟩ := Option.map_eq_some_iff.mp har
    have hself : ((("self" : Str) :: ps).zip us).reverse.lookup (("self" : Str)) = some (.ref a) := by
      cases r with
      | cons r1 r2 =>
        obtain rfl : _ = Value.ref a := r1
        exact NdefX.zip_look (i := 0) (by
          have q := S.nd.sublist (List.take_sublist ((("self" : Str) :: ps).length + [("__class__" : Str)].length) N)
          rw [S.pre] at q
          exact (List.nodup_append.mp q).1) rfl rfl
    obtain ⟨mb, hmb1, hmb2⟩ := e0.mod.blt
    have bk1 : ∀ b o, base.get? b = some o → h₁.get? b = some o := fun b o e => kp _ _ (e0.bs b o e).1
    show PySem.wpAt (model P w) _ (.func (defBody st) _) (execs (defBody st) _) _ _ _
    rw [hb]
    refine ks_wpAt_execs_cons (ks_wpAt_Expr_any (ks_wpAt_MethodCall (pl := do return (← importBound (.Call (.Name (("super" : Str)) p0) [] [] p1) (callEnv ((NdefX.NF.mk "__init__" qual (defArgs st) (defBody st) (defScope st) [("__class__", cc)] c).fd doc pm ctv) s.heap.objs.size f)).getD true) ?_ (call_form hln)) I.quiet)
    refine ks_wpAt_super_base (f := f) (cc := c) (ar := ar) (of := _) (oc := occ) (vs := fvs) (file := file) (tf := tf) hks (S.frk _ (by simp)) (by decide) rfl (kp _ _ (KX _ _ lk)) rfl har1 rfl (kp _ _ (KX _ _ lc)) dc hvs hfile htop ?_
    refine PySem.W.ks_loadName_global S.kind hks (Calls.loadGlobal_builtin (mg := mg) (e0.mod.glob.keeps bk1) gS (hmb1.keeps bk1) ((hmb2 _ (by decide)).trans type_super) ⟨rfl, ?_⟩)
    refine wpAny_loadName_free S.kind (S.frk _ (by simp)) rfl ⟨_, kp _ _ (KX _ _ lcc), dcc⟩ ?_
    refine wpAny_loadName_local S.kind (by rw [har2]; exact S.par _ (by simp)) hns (by rw [har2]; exact hself) ?_
    refine ks_wpAny_isType_cls hC1 rfl ⟨rfl, ?_⟩
    have IA : PySem.W.InstAt h₁ a { cls := .ref C, dict := none, data := .fields #[.ref t0, .none, .none, .none, .bool false, .none] } C none := ⟨ho, rfl, rfl, trivial⟩
    have subC : PySem.W.Looks (model P w) h₁ (isSubtype (.ref C) (.ref C)) true := PySem.W.looks_mroIn KX1 hmC
    refine ks_wpAny_call_super hC1 rfl ho rfl (fun c e => by cases e) subC (fun h2 e2 k2 => ?_)
    have I2 := I.kept (t' := s.toks + (((("self" : Str) :: ps)).zip us).length) k2
    have KX2 : K.In h2 := KX1.keeps k2
    have IA2 : PySem.W.InstAt h2 a { cls := .ref C, dict := none, data := .fields #[.ref t0, .none, .none, .none, .bool false, .none] } C none := ⟨k2 _ _ ho, rfl, rfl, trivial⟩
    have hin : PySem.W.Looks (model P w) h2 (isInstance (.ref a) (.type "Exception")) true := IA2.type.andThen (PySem.W.looks_subIn KX2 T.exE)
    have hmro : PySem.W.Looks (model P w) h2 (mroOf (.ref C)) cdC.mro := fun A Q E s k q => wpAny_bind ((PySem.W.looks_clsIn KX2 hclC) A _ E s k (wpAny_pure q))
    have hf2 : PySem.W.alongIn K "__init__" ((cdC.mro.dropWhile (· != .ref C)).drop 1) = some (some (.builtin "Exception.__init__")) := by
      have hm := hsu
      unfold PySem.W.ks_superIn at hm
      rw [hclC] at hm
      exact hm
    refine ESX.getMethod_super e2 (PySem.W.looks_opaque KX2 hop) hmro rfl KX2 hf2 hxC (by decide) hin ?_
    have hu : (h2.push (ESX.bw a)).get? h2.objs.size = some (ESX.bw a) := Heap.get?_push_size _ rfl
    have k3 : ∀ b o, h2.get? b = some o → (h2.push (ESX.bw a)).get? b = some o := fun b o e => Heap.get?_push_of_some _ e
    have I3 := I2.kept (h' := h2.push (ESX.bw a)) (t' := s.toks + (((("self" : Str) :: ps)).zip us).length + 1) k3
    refine ESX.callWith_bound (x := a) ?_
    show wpAny _ _ (spliced ((false, eval (.Constant (.str msg) j p3) _) :: backTo p4 (starEach [] _))) _ _ _
    refine Calls.spliced_cons (Calls.Constant_str ?_)
    refine Calls.spliced_nil ⟨hu, ?_⟩
    have hC3 : (h2.push (ESX.bw a)).get? C = some (excClassObj nm qd C Nn bs bm hdct sn sub ab col dd k0 k1 k2' k3' k5 "Exception.__new__") := k3 _ _ (k2 _ _ hC1)
    refine ESX.call_bw hC3 (k3 _ _ (k2 _ _ ho)) hu (by show 1 ≤ sizeLine; rw [sizeLine_eq]; omega) fun h4 t1 k4 hx4 => ?_
    have J := I3.write (h' := h4) (x := a) (e := a) (o := exo a C none) (t' := s.toks + (((("self" : Str) :: ps)).zip us).length + 1 + 1) (by rw [ea]; exact True.intro) (.inl rfl) k4 ⟨_, hx4⟩ (exo_ok hx4)
    have eu : upd H a (exo a C none) = H := by
      funext b
      by_cases hb : b = a
      · rw [hb, upd_same, ea]
      · rw [upd_ne hb]
    rw [eu] at J
    obtain ⟨tt, ht, hq⟩ := hrest A outer s H cc c a xs Q E hl ea hQ
    refine wpAt_of_wpAny (wpAny_mono (ht.nox.run [] _ _ H _ J hq) (fun fl s' hs => ?_) fun e s' hs => hs)
    have fin : ∀ {σ' : L2.St} {H' : Hp} {v : V} {u : Value}, Inv (NdefX.ncx CX0 P w K mg base N (NdefX.NF.mk "__init__" qual (defArgs st) (defBody st) (defScope st) [("__class__", cc)] c) f A outer s H E) [] σ' H' s' → L2.RelV v u → Q v H' → CE outer P w H s Q u s' :=
      fun {σ' H' v u} J rv q => ⟨v, H', J.os, J.bare, J.base, J.hok, rv, q⟩
    cases fl with
    | ret u =>
      obtain ⟨v, σ', H', J, rv, q⟩ := hs
      exact fin J rv q
    | next =>
      obtain ⟨σ', H', J, q⟩ := hs
      exact fin (v := V.non) (u := Value.none) J rfl q
    | brk =>
      obtain ⟨_, _, _, q⟩ := hs
      exact False.elim q
    | cont =>
      obtain ⟨_, _, _, q⟩ := hs
      exact False.elim q
theorem no_swap {env : Env} (hk : env.scope.kind = .function) {o1 o2 : Expr} {a1 a2 : Str} {q1 q2 q3 : Pos} {n1 : Nat} {v : Expr} : swappedStores [.Tuple [.Attribute o1 a1 q1, .Attribute o2 a2 q2] n1 q3] v env = pure none := by
  have e : env.blockKind = .function := by
    unfold Env.blockKind
    rw [hk]
    rfl
  unfold swappedStores
  cases v <;> first | rfl | skip
  rename_i vs _ _
  simp only [e]
  split
  · rfl
  · split
    · rfl
    · rename_i h
      split
      · rfl
      · rename_i h2
        exact absurd (by rfl) h2
/-- self.fl = g -/
theorem ok_x1 {qual : Str} {st : Stmt} {msg g fl : Str} {j : Nat} {p0 p1 p2 p3 p4 p5 q1 q2 q3 q4 : Pos} (F : SuF P K qual st C f fd) (T : ExK K C) (hno : PySem.W.findIn K (.ref C) fl = some none)
    (hb : defBody st = .Expr (.Call (.Attribute (.Call (.Name "super" p0) [] [] p1) "__init__" p2) [.Constant (.str msg) j p3] [] p4) p5 :: [.Assign [.Attribute (.Name "self" q1) fl q2] (.Name g q3) q4])
    (S : NdefX.NScope ["self", g, "__class__"] [(("self" : Str)), g] ["__class__"] (defScope st)) (hks : (defScope st).names.lookup ("super" : Str) = some .globalImplicit)
    (har : ((defArgs st).posonlyargs ++ (defArgs st).args).head?.map (·.arg) = some (("self" : Str)))
    (hsu : PySem.W.ks_superIn K C C "__init__" = some (some (.builtin "Exception.__init__"))) (hmC : PySem.W.mroIn K C (.ref C) = some true) (hop : PySem.W.nsIn K cStatics "thirdparty.any" = some none)
    (hln : (p2.endLine == p4.line) = true) (gS : mg "super" = none) (htop : (P.main.scope.names.lookup ("super" : Str)).isSome = false) (hd : (g == ("__debug__" : Str)) = false) (hcd : (g == ("__classdict__" : Str)) = false) :
    FnOk P w K mg base CX0 (k + 1) f fd [(("self" : Str)), g] (spX C 1 fun xs => [(fl, xs.headD .non)]) := by
  refine ok_xinit F T hb S rfl hks har hsu hmC hop hln gS htop fun A outer s H cc c a xs Q E hl ea hQ => ?_
  match xs, hl with
  | [x], _ =>
    refine ⟨_, pss_one (ps_asg (pe_var (i := 1) rfl (.inl (S.par g (by simp))) hd hcd) (pg_ost (pe_var (i := 0) rfl (.inl (S.par _ (by simp))) (by decide) (by decide)))), ?_⟩
    refine ⟨x, rfl, .ref a, rfl, a, C, rfl, T, hno, .inl ⟨ea, fun dx hd hne => ?_⟩⟩
    refine hQ _ dx (fun b o hb e => ?_) hd hne upd_same ?_
    · rw [upd_ne hb, upd_ne (ne_of_none e hd)]
      exact e
    · rw [upd_ne hne, upd_same]
      rfl
/-- self.f1, self.f2 = g1, g2 -/
theorem ok_x2 {qual : Str} {st : Stmt} {msg g1 g2 f1 f2 : Str} {j n1 n2 : Nat} {p0 p1 p2 p3 p4 p5 q1 q2 q3 q4 q5 q6 q7 q8 q9 : Pos} (F : SuF P K qual st C f fd) (T : ExK K C) (hno1 : PySem.W.findIn K (.ref C) f1 = some none) (hno2 : PySem.W.findIn K (.ref C) f2 = some none)
    (hb : defBody st = .Expr (.Call (.Attribute (.Call (.Name "super" p0) [] [] p1) "__init__" p2) [.Constant (.str msg) j p3] [] p4) p5 :: [.Assign [.Tuple [.Attribute (.Name "self" q1) f1 q2, .Attribute (.Name "self" q3) f2 q4] n1 q5] (.Tuple [.Name g1 q6, .Name g2 q7] n2 q8) q9])
    (S : NdefX.NScope ["self", g1, g2, "__class__"] [(("self" : Str)), g1, g2] ["__class__"] (defScope st)) (hks : (defScope st).names.lookup ("super" : Str) = some .globalImplicit)
    (har : ((defArgs st).posonlyargs ++ (defArgs st).args).head?.map (·.arg) = some (("self" : Str)))
    (hsu : PySem.W.ks_superIn K C C "__init__" = some (some (.builtin "Exception.__init__"))) (hmC : PySem.W.mroIn K C (.ref C) = some true) (hop : PySem.W.nsIn K cStatics "thirdparty.any" = some none)
    (hln : (p2.endLine == p4.line) = true) (gS : mg "super" = none) (htop : (P.main.scope.names.lookup ("super" : Str)).isSome = false) (hd1 : (g1 == ("__debug__" : Str)) = false) (hcd1 : (g1 == ("__classdict__" : Str)) = false)
    (hd2 : (g2 == ("__debug__" : Str)) = false) (hcd2 : (g2 == ("__classdict__" : Str)) = false) :
    FnOk P w K mg base CX0 (k + 1) f fd [(("self" : Str)), g1, g2] (spX C 2 fun xs => [(f2, xs.getD 1 .non), (f1, xs.getD 0 .non)]) := by
  refine ok_xinit F T hb S rfl hks har hsu hmC hop hln gS htop fun A outer s H cc c a xs Q E hl ea hQ => ?_
  match xs, hl with
  | [x, y], _ =>
    refine ⟨_, pss_one (ps_asg (pe_tup (pa_cons (pe_var (i := 1) rfl (.inl (S.par g1 (by simp))) hd1 hcd1) (pa_cons (pe_var (i := 2) rfl (.inl (S.par g2 (by simp))) hd2 hcd2) pa_nil)))
      (pg_tup rfl (pgs_cons (pg_ost (pe_var (i := 0) rfl (.inl (S.par _ (by simp))) (by decide) (by decide))) (pgs_cons (pg_ost (pe_var (i := 0) rfl (.inl (S.par _ (by simp))) (by decide) (by decide))) pgs_nil))) (hw := no_swap S.kind)), ?_⟩
    refine ⟨x, rfl, y, rfl, two_ok, fun p hp => ⟨p, [x, y], rfl, SqT.of upd_same, rfl, x, [y], rfl, ?_⟩⟩
    have hap : a ≠ p := ne_of_none ea hp
    refine ⟨.ref a, rfl, a, C, rfl, T, hno1, .inl ⟨by rw [upd_ne hap]; exact ea, fun dx hd hne => ?_⟩⟩
    refine ⟨y, [], rfl, .ref a, rfl, a, C, rfl, T, hno2, .inr ⟨dx, [(f1, x)], upd_same, by rw [upd_ne hne, upd_same], by simp, rfl, ?_⟩⟩
    have hdp : H dx = none ∧ dx ≠ p := by
      by_cases e : dx = p
      · rw [e, upd_same] at hd
        cases hd
      · rw [upd_ne e] at hd
        exact ⟨hd, e⟩
    refine hQ _ dx (fun b o hb e => ?_) hdp.1 hne ?_ upd_same
    · rw [upd_ne (ne_of_none e hdp.1), upd_ne hb, upd_ne (ne_of_none e hdp.1), upd_ne (ne_of_none e hp)]
      exact e
    · rw [upd_ne (Ne.symm hne), upd_same]
end
end EX2
set_option Elab.async false
set_option linter.all false
set_option maxRecDepth 100000
set_option maxHeartbeats 2000000
namespace EX2
open PySem PySem.Spec PyProof.Rows L2
/-- C(e, ..) -/
def tMkX (C : Addr) (n : Nat) (fs : List V → List (Str × V)) (ta : TA) : TE := fun σ H Q => ta σ H fun vs H1 => vs.length = n ∧ ∀ (a dx : Addr) (H' : Hp), H1 a = none → H1 dx = none → dx ≠ a → Evl.Ex H1 H' → H' a = some (exo a C (some dx)) → H' dx = some (exd dx (fs vs)) → Q (.ref a) H'
section
variable {X : Cx} {e : Expr} {es : List Expr} {ta : TA} {p pos : Pos}
theorem pe_mkx {x : Str} {C fI : Addr} {k n : Nat} {fd : FuncData} {ps : List Str} {fs : List V → List (Str × V)} (T : ExK X.K C) (iC : PySem.W.findIn X.K (.ref C) "__init__" = some (some (.ref fI))) (tI : PySem.W.typeIn X.K (.ref fI) = some (.type "function"))
    (F1 : FnOk X.prog X.w X.K X.mg X.base CX0 k fI fd ps (spX C n fs)) (hr : Room (k + 1) X.A) (hb : Binds X.K fd ps []) (hg : Gl X x) (hm : X.mg x = some (.ref C)) (hn : n ≤ 1000) (ha : PA X (e :: es) ta)
    (hdb : (x == ("__debug__" : Str)) = false := by decide) (he : starEach (e :: es) X.env = (false, eval e X.env) :: starEach es X.env := by rfl) (hpl : (backTo pos (starEach es X.env)).any (·.1) = false := by rfl) :
    PE X (.Call (.Name x p) (e :: es) [] pos) (tMkX C n fs ta) := by
  refine ⟨fun pins s σ H Q I h => ?_⟩
  refine wpAny_Call_Name_kw (ld_glob I hg hm ?_ hdb)
  refine PySem.W.callWith_K (h₀ := X.base) I.ok.mod.kin T.kC (thn (ha.run pos pins s σ H _ I h) fun us s1 ⟨vs, H1, I1, r1, hz, q1⟩ => ⟨I1.kIn, ?_⟩) he hpl
  show wpAny _ _ (call (.ref C) us) _ _ _
  obtain ⟨nm, Nn, qd, bs, bm, hdct, sn, sub, ab, col, dd, k0, k1, k2, k3, k5, hC, hT⟩ := PySem.W.excInit_of I1.kIn T.init
  obtain ⟨hp, g, dr, tk, os⟩ := s1
  have hsz : hp.objs.size ≤ hp.objs.size + 1 := Nat.le_succ _
  have hn1 : H1 (hp.objs.size + 1) = none := I1.hok.fresh hsz
  have kk : ∀ b o, hp.get? b = some o → ((hp.push (PySem.W.kdv_tup us)).push (PySem.HandSPX.excO C hp.objs.size)).get? b = some o := fun b o e => Heap.get?_push_of_some _ (Heap.get?_push_of_some _ e)
  have hget : ((hp.push (PySem.W.kdv_tup us)).push (PySem.HandSPX.excO C hp.objs.size)).get? (hp.objs.size + 1) = some (PySem.HandSPX.excO C hp.objs.size) := by heap_get
  have I2 : Inv X pins σ (upd H1 (hp.objs.size + 1) (exo (hp.objs.size + 1) C none)) ⟨(hp.push (PySem.W.kdv_tup us)).push (PySem.HandSPX.excO C hp.objs.size), g, dr, tk, os⟩ :=
    I1.laid (t' := tk) (a := hp.objs.size + 1) (o := exo (hp.objs.size + 1) C none) (h' := (hp.push (PySem.W.kdv_tup us)).push (PySem.HandSPX.excO C hp.objs.size)) kk hsz (exo_ok hget)
  have r2 : Vals (V.ref (hp.objs.size + 1) :: vs) (Value.ref (hp.objs.size + 1) :: us) := .cons rfl r1
  have hus : us.length ≤ sizeLine := by
    rw [← Paired.length r1, hz, sizeLine_eq]
    omega
  have hsp : spX C n fs (V.ref (hp.objs.size + 1) :: vs) (upd H1 (hp.objs.size + 1) (exo (hp.objs.size + 1) C none)) (fun v H2 => v = .non ∧ Q (.ref (hp.objs.size + 1)) H2) (fun _ _ _ => False) := by
    refine ⟨_, vs, rfl, hz, upd_same, fun H' dx k1 hd hne h1 h2 => ⟨rfl, ?_⟩⟩
    rw [upd_ne hne] at hd
    refine q1 _ dx H' hn1 hd hne (fun b o hb => ?_) h1 h2
    have hba : b ≠ hp.objs.size + 1 := ne_of_none hb hn1
    refine k1 b o hba ?_
    rw [upd_ne hba]
    exact hb
  have hlen := F1.len _ _ _ _ hsp
  have hbt := hb ⟨(hp.push (PySem.W.kdv_tup us)).push (PySem.HandSPX.excO C hp.objs.size), g, dr, tk, os⟩ (Value.ref (hp.objs.size + 1) :: us) I2.kIn (by rw [List.append_nil, ← r2.length]; exact hlen)
  rw [List.append_nil] at hbt
  refine wpAny_call (PySem.HandSPX.call_own F.excBase_Exception hT hC (PySem.W.looks_findIn I1.kIn iC) (fun self => PySem.W.bind_fn I1.kIn self tI) hus
    (codeAny_mono (F1.run _ X.stack _ _ ⟨Value.ref (hp.objs.size + 1) :: us, []⟩ (Value.ref (hp.objs.size + 1) :: us) _ _ (fun _ _ _ => False) (hr.make C us []) (I2.env0.make C us []) hbt r2 hsp) fun r s' hq' => ?_))
  cases r with
  | error er => exact False.elim hq'
  | ok fl =>
    cases fl with
    | ret u =>
      have hq2 : CE X.stack X.prog X.w _ _ _ u s' := hq'
      obtain ⟨v, H2, I3, rv, ev, q2⟩ := I2.after hq2
      subst ev
      exact ⟨rv, ⟨V.ref (hp.objs.size + 1), H2, I3, rfl, q2⟩⟩
    | next => exact False.elim hq'
    | brk => exact False.elim hq'
    | cont => exact False.elim hq'
/-! ### fields -/
/-- e.f, e an exception -/
def tXg (K : PySem.W.Frag) (f : Str) (te : TE) : TE := fun σ H Q => te σ H fun x H1 => ∃ (a C dx : Addr) (fs : List (Str × V)) (v : V), x = .ref a ∧ XfC K C ∧ PySem.W.findIn K (.ref C) f = some none ∧ H1 a = some (exo a C (some dx)) ∧ H1 dx = some (exd dx fs) ∧ fs.lookup f = some v ∧ Q v H1
theorem pe_xg {f : Str} {te : TE} (he : PE X e te) (hb : attributeBase e f X.env (eval e X.env) = eval e X.env := by rfl) : PE X (.Attribute e f pos) (tXg X.K f te) := by
  refine ⟨fun pins s σ H Q I h => ?_⟩
  refine attr_of hb (thn (he.run pins s σ H _ I h) fun u s1 hh => ?_)
  obtain ⟨x, H1, I1, rx, a, C, dx, fs, v, ex, T, hno, ea, ed, l, q⟩ := hh
  subst ex
  obtain rfl : u = Value.ref a := rx
  obtain ⟨t1, ho⟩ := exo_at I1.hok ea
  obtain ⟨mA, hns, rel⟩ := exd_at I1.hok ed
  obtain ⟨od, hod, hl⟩ := lookIn_ns hns
  obtain ⟨u, hu, ru⟩ := RelO.some_of (v := v) (o := mA f) (by rw [← l]; exact rel f)
  have J : PySem.W.InstAt s1.heap a { cls := .ref C, dict := some dx, data := .fields #[.ref t1, .none, .none, .none, .bool false, .none] } C (some od) := ⟨ho, rfl, rfl, hod⟩
  exact HandSPX.exc_get I1.kIn J T.ga T.gg T.exC (PySem.W.findObj_own T.hdC hno rfl (by rw [hl, hu])) (handed_of ru) ⟨v, H1, I1.tok _, ru, q⟩
end
end EX2
set_option Elab.async false
set_option linter.all false
set_option maxRecDepth 100000
set_option maxHeartbeats 4000000
namespace PySem.W
open PySem PySem.Spec PySem.Calls PyProof.Rows
section
variable {prog : Program} {w : World} {A : Around} {E : Value → Shared → Prop} {s : Shared} {K : Frag} {x D : Addr} {ox : Obj} {od : Option Obj}
theorem findObj_dataO {C : Addr} {name : Str} {a g : Value} (hc : (clsIn K C).isSome = true) (ha : findIn K (.ref C) name = some (some a)) (hg : specialIn K a "__get__" = some (some g)) (ht : takesIn K a = some true) : findObj K C od name = some (.bind g a) := by
  obtain ⟨cd, hc⟩ := Option.isSome_iff_exists.mp hc
  unfold findObj
  rw [hc, Option.bind_some, ha, Option.bind_some]
  simp [hg, ht]
theorem kin_classD {Q : Option Value → Shared → Prop} (hga : findIn K (.ref D) "__getattribute__" = some (some (.builtin "BaseException.__getattribute__"))) (hgt : findIn K (.ref D) "__getattr__" = some none) (hsub : subIn K (.ref D) (.type "BaseException") = some true)
    (hdct : hasDictIn K D = true) (ha : findIn K (.ref D) "__class__" = some (some (.builtin "object.__class__")))
    (hn : specialIn K (.builtin "object.__class__") "__get__" = some (some (.builtin "getset_descriptor.__get__"))) (htk : takesIn K (.builtin "object.__class__") = some true) (hm : mroIn K D (.type "object") = some true)
    (X : K.In s.heap) (I : InstAt s.heap x ox D od) (h : Q (some (.ref D)) { s with toks := s.toks + 1 }) : wpAny (model prog w) A (getAttr? (.ref x) "__class__") Q E s := by
  have hf : findObj K D od "__class__" = some (.bind (.builtin "getset_descriptor.__get__") (.builtin "object.__class__")) := findObj_dataO (by obtain ⟨cd, hc, _⟩ := any_some hdct; rw [hc]; rfl) ha hn htk
  obtain ⟨hp, g, d, t, os⟩ := s
  have L0 := I.type (M := model prog w)
  have L1 := looks_findIn (M := model prog w) X hga
  have L2 := looks_findIn (M := model prog w) X hgt
  have L3 := looks_find (M := model prog w) X I hf
  have sub : Looks (model prog w) hp (isInstance (.ref x) (.type "BaseException")) true := L0.andThen (looks_subIn X hsub)
  have hx0 : (false && onTheHeap (Value.builtin "BaseException.__getattribute__")) = false := rfl
  have hx2 : (Value.builtin "BaseException.__getattribute__" == Value.builtin "object.__getattribute__") = false := by decide +kernel
  have hx1 : (onTheHeap (Value.ref D) && Value.builtin "BaseException.__getattribute__" == Value.builtin "object.__getattribute__") = false := by rw [hx2]; rfl
  unfold getAttr? getAttrBy? getAttrBy
  refine wpAny_bind (wpAny_mkText (wpAny_bind (wpAny_attempt (wpAny_holding (wpAny_bind (L0.at (wpAny_bind (L1.at ?_))))))))
  show wpAny _ _ (if (onTheHeap (Value.ref D) && Value.builtin "BaseException.__getattribute__" == Value.builtin "object.__getattribute__") = true then _ else _) _ _ _
  rw [hx1, if_neg Bool.false_ne_true]
  unfold getAttrByItsOwn hookBefore
  refine wpAny_bind ?_
  rw [if_pos (show onTheHeap (Value.ref D) = true from rfl)]
  refine L2.at ?_
  refine wpAny_bind (wpAny_attempt (wpAny_holding ?_))
  unfold callGetattribute
  rw [hx0, if_neg Bool.false_ne_true]
  unfold boundAndCalled
  rw [PySem.F.excAttr_ValueError.ga.bind (.ref x)]
  refine wpAny_bind (wpAny_pure ?_)
  show wpAny _ _ (call (.builtin "BaseException.__getattribute__") [.ref x, .str "__class__" t]) _ _ _
  refine wpAny_call (codeAny_call_builtin PySem.F.excAttr_ValueError.ga.plain PySem.F.entry_bexc_ga ?_)
  refine @check_slot (model prog w) _ _ ⟨hp, g, d, t + 1, os⟩ "BaseException.__getattribute__" "BaseException" "__getattribute__" (.ref x) [.str "__class__" t] [] _ (by decide +kernel) (by decide +kernel) sub (PySem.F.args_bexc_ga (.ref x) (.str "__class__" t)) ?_
  unfold Builtin.«object.__getattribute__»
  refine wpAny_bind (wpAny_of_eq (a := ((Value.ref x : Value), [Value.str "__class__" t])) (by first | rfl | (simp only [slotArgs]; rfl)) ?_)
  refine wpAny_bind (wpAny_pure (wpAny_bind (L0.at (wpAny_bind (L3.at ?_)))))
  show wpAny _ _ (holding [Value.builtin "object.__class__"] (call (.builtin "getset_descriptor.__get__") [.builtin "object.__class__", .ref x, .ref D]) >>= ret) _ _ _
  refine wpAny_bind (wpAny_holding (wpAny_call (class_get (s := ⟨hp, g, d, t + 1, os⟩) (ox := ox) (od := od) X I hm ?_)))
  refine wpAny_pure ?_
  show wpAny _ _ (handedOut (.ref D)) _ _ _
  rw [handedOut_of (v := .ref D) rfl]
  first
    | exact wpAny_pure (wpAny_pure h)
    | exact wpAny_pure h
    | exact wpAny_pure (wpAny_bind (wpAny_pure (wpAny_pure h)))
theorem kitx_excD (hga : findIn K (.ref D) "__getattribute__" = some (some (.builtin "BaseException.__getattribute__"))) (hgt : findIn K (.ref D) "__getattr__" = some none) (hsub : subIn K (.ref D) (.type "BaseException") = some true) (hdct : hasDictIn K D = true) (ha : findIn K (.ref D) "__class__" = some (some (.builtin "object.__class__")))
    (hn : specialIn K (.builtin "object.__class__") "__get__" = some (some (.builtin "getset_descriptor.__get__"))) (htk : takesIn K (.builtin "object.__class__") = some true) (hm : mroIn K D (.type "object") = some true) :
    KitX K (.ref x) (.ref D) (fun h => InstAt h x ox D od) where
  ty := fun _ _ _ I => I.type
  it := fun _ _ X _ => by
    obtain ⟨cdD, hcD, _⟩ := any_some hdct
    unfold clsIn at hcD
    split at hcD
    · rename_i c' d' cd' sl' ho
      intro A' Q' E' s' k q
      unfold isType loadHead
      exact wpAny_bind (wpAny_loadPart (k _ _ (X _ _ ho)) (wpAny_pure q))
    · cases hcD
  ne := fun h tp dd its n sl X htp => by
    obtain ⟨cdD, hcD, _⟩ := any_some hdct
    refine Bool.eq_false_iff.mpr fun q => ?_
    have e : D = tp := Value.ref.inj (beq_iff_eq.mp q)
    subst e
    unfold clsIn at hcD
    split at hcD
    · rename_i c' d' cd' sl' ho
      have z := (X _ _ ho).symm.trans htp
      cases z
    · cases hcD
  ca := fun X I k => kin_classD hga hgt hsub hdct ha hn htk hm X I k
end
end PySem.W
namespace EX2
open PySem PySem.Spec PyProof.Rows L2
/-- an exception that is held as a value -/
def ExAt (H : Hp) (a C : Addr) (fs : List (Str × V)) : Prop := ∃ dx, H a = some (exo a C (some dx)) ∧ H dx = some (exd dx fs)
theorem ExAt.ext {H H' : Hp} {a C : Addr} {fs : List (Str × V)} (h : ExAt H a C fs) (e : Evl.Ex H H') : ExAt H' a C fs := by
  obtain ⟨dx, h1, h2⟩ := h
  exact ⟨dx, e _ _ h1, e _ _ h2⟩
theorem ExAt.inst {X : Cx} {pins : List (Addr × Obj)} {σ : L2.St} {H : Hp} {s : Shared} {a C : Addr} {fs : List (Str × V)} (I : Inv X pins σ H s) (h : ExAt H a C fs) : ∃ ox od, PySem.W.InstAt s.heap a ox C (some od) := by
  obtain ⟨dx, ea, ed⟩ := h
  obtain ⟨t1, ho⟩ := exo_at I.hok ea
  obtain ⟨mA, hns, rel⟩ := exd_at I.hok ed
  obtain ⟨od, hod, hl⟩ := lookIn_ns hns
  exact ⟨{ cls := .ref C, dict := some dx, data := .fields #[.ref t1, .none, .none, .none, .bool false, .none] }, od, ho, rfl, rfl, hod⟩
/-- isinstance(e, c) -/
def rIsX (K : PySem.W.Frag) : List V → Hp → VK → Prop := fun xs H Q => ∃ (a C : Addr) (fs : List (Str × V)) (c : V) (u : Value) (b : Bool), xs = [.ref a, c] ∧ ClsV c u ∧ ExAt H a C fs ∧ ExcC K C ∧ PySem.W.kitOne K (.ref C) u = some b ∧ Q (.bl b) H
/-- isinstance(e, (c1, c2, ..)) -/
def rIsXT (K : PySem.W.Frag) : List V → Hp → VK → Prop := fun xs H Q => ∃ (a C : Addr) (fs : List (Str × V)) (tp : Addr) (cs : List V) (us : List Value) (b : Bool), xs = [.ref a, .ref tp] ∧ H tp = some (.tup cs) ∧ Paired ClsV cs us ∧ ExAt H a C fs ∧ ExcC K C ∧ PySem.W.kitAny K (.ref C) us = some b ∧ Q (.bl b) H
section
variable {X : Cx}
theorem call_isX : CallR X (.builtin "isinstance") (rIsX X.K) := by
  intro pins s σ H xs us Q I r h
  obtain ⟨a, C, fs, c, u, b, rfl, k, ha, T, e, q⟩ := h
  obtain ⟨u1, u2, rfl, r1, r2⟩ := vals2 r
  have e2 := k.eq r2
  subst e2
  obtain rfl : u1 = Value.ref a := r1
  obtain ⟨ox, od, J⟩ := ha.inst I
  exact PySem.W.kia_one (PySem.W.kitx_excD T.hg T.hk T.hs T.hd T.ha T.hn T.ht T.hm) I.kIn J e (fun z => nomatch z) fun tk => ⟨.bl b, H, I.tok tk, rfl, q⟩
theorem call_isXT : CallR X (.builtin "isinstance") (rIsXT X.K) := by
  intro pins s σ H xs us Q I r h
  obtain ⟨a, C, fs, tp, cs, ws, b, rfl, et, k, ha, T, e, q⟩ := h
  obtain ⟨u1, u2, rfl, r1, r2⟩ := vals2 r
  obtain rfl : u1 = Value.ref a := r1
  obtain rfl : u2 = Value.ref tp := r2
  obtain ⟨ox, od, J⟩ := ha.inst I
  obtain ⟨_, its, rv, o, h1, h2, n, h3⟩ := (show ObjOk X.prog X.w H s.heap tp (.tup cs) from I.hok tp _ et)
  have e3 := ClsV.all k rv
  subst e3
  obtain ⟨oc, od2, dt, sl⟩ := o
  simp only at h2 h3
  subst h2 h3
  exact PySem.W.kia_tup (PySem.W.kitx_excD T.hg T.hk T.hs T.hd T.ha T.hn T.ht T.hm) I.kIn J h1 e (fun z => nomatch z) fun tk => ⟨.bl b, H, I.tok tk, rfl, q⟩
end
/-! ### what a value is, told by the heap: data with dicts of ints and texts -/
def kD : Key → PyData
  | .inl i => .int i
  | .inr x => .str x
mutual
inductive Dq (H : Hp) : V → PyData → Prop
  | non : Dq H .non .none
  | bl (b : Bool) : Dq H (.bl b) (.bool b)
  | int (i : Int) : Dq H (.int i) (.int i)
  | str (x : Str) : Dq H (.str x) (.str x)
  | lst {a : Addr} {xs : List V} {ds : List PyData} (e : H a = some (.lst xs)) (h : DqAll H xs ds) : Dq H (.ref a) (.list ds)
  | tup {a : Addr} {xs : List V} {ds : List PyData} (e : H a = some (.tup xs)) (h : DqAll H xs ds) : Dq H (.ref a) (.tuple ds)
  | dk {a : Addr} {kvs : List (Key × V)} {ds : List PyData} (e : H a = some (.dK kvs)) (h : DqAll H (kvs.map (·.2)) ds) : Dq H (.ref a) (.dict ((kvs.map fun p => kD p.1).zip ds))
inductive DqAll (H : Hp) : List V → List PyData → Prop
  | nil : DqAll H [] []
  | cons {x : V} {xs : List V} {d : PyData} {ds : List PyData} (h : Dq H x d) (t : DqAll H xs ds) : DqAll H (x :: xs) (d :: ds)
end
mutual
theorem Dq.ext {H H' : Hp} (e : Evl.Ex H H') : ∀ {x : V} {d : PyData}, Dq H x d → Dq H' x d
  | _, _, .non => .non
  | _, _, .bl b => .bl b
  | _, _, .int i => .int i
  | _, _, .str x => .str x
  | _, _, .lst q h => .lst (e _ _ q) (DqAll.ext e h)
  | _, _, .tup q h => .tup (e _ _ q) (DqAll.ext e h)
  | _, _, .dk q h => .dk (e _ _ q) (DqAll.ext e h)
theorem DqAll.ext {H H' : Hp} (e : Evl.Ex H H') : ∀ {xs : List V} {ds : List PyData}, DqAll H xs ds → DqAll H' xs ds
  | _, _, .nil => .nil
  | _, _, .cons h t => .cons (Dq.ext e h) (DqAll.ext e t)
end
section
variable {P : Program} {w : World} {H : Hp} {h : Heap}
theorem keys_reads {es : List DictEntry} {vs : List (Key × Value)} (p : PySem.Pairs (mixKind P w) es vs) : ReadsAll h (es.map (·.key)) (vs.map fun q => kD q.1) [] := by
  induction p with
  | nil => exact .nil
  | @cons e kv es kvs hk _ _ ih =>
    refine .cons (as := []) (bs := []) ?_ ih
    show Reads h e.key (kD kv.1) []
    rcases keyIs_shape hk with ⟨i, t, e1, e2⟩ | ⟨x, t, e1, e2⟩
    · rw [e2, e1]
      exact .int i t
    · rw [e2, e1]
      exact .str x t
theorem vals_pairs {es : List DictEntry} {vs : List (Key × Value)} (p : PySem.Pairs (mixKind P w) es vs) : es.map (·.val) = vs.map (·.2) := by
  induction p with
  | nil => rfl
  | cons hk hv _ ih => simp [ih, hv]
theorem kv_vals {kvs : List (Key × V)} {vs : List (Key × Value)} (r : KV kvs vs) : L2.Vals (kvs.map (·.2)) (vs.map (·.2)) ∧ (kvs.map fun p => kD p.1) = vs.map fun p => kD p.1 := by
  unfold KV at r
  induction r with
  | nil => exact ⟨.nil, rfl⟩
  | cons h _ ih => exact ⟨.cons h.2 ih.1, by simp only [List.map_cons, ih.2, h.1]⟩
theorem DqAll.length {xs : List V} {ds : List PyData} (q : DqAll H xs ds) : xs.length = ds.length := by
  induction xs generalizing ds with
  | nil => cases q; rfl
  | cons x xs ih =>
    cases q with
    | cons _ t => simp [ih t]
/-- sys.modules is a dict -/
def SysD (h : Heap) : Prop := ∃ o es n, h.get? sysModules = some o ∧ o.data = .dict es n
mutual
theorem Dq.reads (ok : HOk P w H h) (sd : SysD h) : ∀ {x : V} {d : PyData} (u : Value), Dq H x d → L2.RelV x u → ∃ as, Reads h u d as ∧ sysModules ∉ as
  | _, _, u, .non, r => by
    obtain rfl : u = Value.none := r
    exact ⟨_, .none, by simp⟩
  | _, _, u, .bl b, r => by
    obtain rfl : u = Value.bool b := r
    exact ⟨_, .bool b, by simp⟩
  | _, _, u, .int i, r => by
    obtain ⟨t, rfl⟩ := r
    exact ⟨_, .int i t, by simp⟩
  | _, _, u, .str x, r => by
    obtain ⟨t, rfl⟩ := r
    exact ⟨_, .str x t, by simp⟩
  | _, _, u, .lst (a := a) (xs := xs) e q, r => by
    obtain rfl : u = Value.ref a := r
    obtain ⟨hz, its, n, rv, ho⟩ := (show ObjOk P w H h a (.lst xs) from ok a _ e)
    obtain ⟨as, rs, hn⟩ := DqAll.reads ok sd its q rv
    refine ⟨_, .list ho rfl rfl rs, fun z => ?_⟩
    rcases List.mem_cons.mp z with z | z
    · obtain ⟨o, es, m, h1, h2⟩ := sd
      rw [z, ho] at h1
      cases h1
      cases h2
    · exact hn z
  | _, _, u, .tup (a := a) (xs := xs) e q, r => by
    obtain rfl : u = Value.ref a := r
    obtain ⟨hz, its, rv, o, h1, h2, n, h3⟩ := (show ObjOk P w H h a (.tup xs) from ok a _ e)
    obtain ⟨as, rs, hn⟩ := DqAll.reads ok sd its q rv
    exact ⟨_, .tuple h1 h2 h3 rs, hn⟩
  | _, _, u, .dk (a := a) (kvs := kvs) (ds := ds) e q, r => by
    obtain rfl : u = Value.ref a := r
    obtain ⟨hz, hs, vs, rk, o, es, ep, h1, h2, h3, _, h5, _⟩ := (show ObjOk P w H h a (.dK kvs) from ok a _ e)
    obtain ⟨rv, ek⟩ := kv_vals rk
    obtain ⟨as, rs, hn⟩ := DqAll.reads ok sd _ q rv
    have hl : (kvs.map fun p => kD p.1).length = ds.length := by
      have := DqAll.length q
      rw [List.length_map] at this
      rw [List.length_map]
      exact this
    refine ⟨_, .dict h1 h2.1 h3 (as := []) (bs := as) ?_ ?_, fun z => ?_⟩
    · rw [List.map_fst_zip (Nat.le_of_eq hl), ek]
      exact keys_reads h5
    · rw [List.map_snd_zip (Nat.le_of_eq hl.symm), vals_pairs h5]
      exact rs
    · rcases List.mem_cons.mp (show sysModules ∈ a :: as from z) with z | z
      · rw [z] at hs
        simp at hs
      · exact hn z
theorem DqAll.reads (ok : HOk P w H h) (sd : SysD h) : ∀ {xs : List V} {ds : List PyData} (us : List Value), DqAll H xs ds → L2.Vals xs us → ∃ as, ReadsAll h us ds as ∧ sysModules ∉ as
  | _, _, _, .nil, .nil => ⟨_, .nil, by simp⟩
  | _, _, _, .cons (d := d) q t, .cons r rs => by
    obtain ⟨a1, h1, n1⟩ := Dq.reads ok sd _ q r
    obtain ⟨a2, h2, n2⟩ := DqAll.reads ok sd _ t rs
    exact ⟨_, .cons h1 h2, by rw [List.mem_append]; exact fun z => z.elim n1 n2⟩
end
end
end EX2
set_option Elab.async false
set_option linter.all false
set_option maxRecDepth 100000
set_option maxHeartbeats 4000000
namespace EX2
open PySem PySem.Spec PyProof.Rows L2
/-! ### repr of data; the stack holds no repr -/
def rReprD : List V → Hp → VK → Prop := fun xs H Q => ∃ (x : V) (d : PyData), xs = [x] ∧ Dq H x d ∧ d.showable = true ∧ d.shown.length ≤ sizeLine ∧ d.depth ≤ 60 ∧ Q (.str d.shown) H
section
variable {X : Cx}
theorem call_reprD (hg : X.A.guards = some []) (hu : X.A.units + 65 < cLine) (sd : SysD X.base) : CallR X (.builtin "repr") rReprD := by
  intro pins s σ H xs us Q I r h
  obtain ⟨x, d, rfl, hd, hs, hz, hdp, q⟩ := h
  obtain ⟨u, rfl, r1⟩ := vals1 r
  have sd1 : SysD s.heap := by
    obtain ⟨o, es, n, h1, h2⟩ := sd
    exact ⟨o, es, n, I.bk _ _ h1, h2⟩
  cases hd with
  | non =>
    obtain rfl : u = Value.none := r1
    simp only [PyData.shown] at q
    exact PySem.P.repr_of_none ⟨.str _, H, I.tok _, ⟨_, rfl⟩, q⟩
  | bl b =>
    obtain rfl : u = Value.bool b := r1
    simp only [PyData.shown] at q
    exact PySem.P.repr_of_bool ⟨.str _, H, I.tok _, ⟨_, rfl⟩, q⟩
  | int i =>
    obtain ⟨t, rfl⟩ := r1
    simp only [PyData.shown] at q
    simp only [PyData.showable, decide_eq_true_eq] at hs
    exact PySem.P.repr_of_int hs ⟨.str _, H, I.tok _, ⟨_, rfl⟩, q⟩
  | str y =>
    obtain ⟨t, rfl⟩ := r1
    simp only [PyData.shown] at q hz
    exact PySem.P.repr_of_str ⟨.str _, H, I.tok _, ⟨_, rfl⟩, q⟩ hz
  | @lst a xs ds e hq =>
    obtain ⟨as, rd, hn⟩ := Dq.reads I.hok sd1 u (.lst e hq) r1
    obtain rfl : u = Value.ref a := r1
    exact repr_of_reads' rd hs (fun _ => hn) hg (by omega) (fun _ _ e => e) (fun h' u tk k => ⟨.str _, H, I.kept (t' := tk) k, ⟨_, rfl⟩, q⟩) hz
  | @tup a xs ds e hq =>
    obtain ⟨as, rd, hn⟩ := Dq.reads I.hok sd1 u (.tup e hq) r1
    obtain rfl : u = Value.ref a := r1
    exact repr_of_reads' rd hs (fun _ => hn) hg (by omega) (fun _ _ e => e) (fun h' u tk k => ⟨.str _, H, I.kept (t' := tk) k, ⟨_, rfl⟩, q⟩) hz
  | @dk a kvs ds e hq =>
    obtain ⟨as, rd, hn⟩ := Dq.reads I.hok sd1 u (.dk e hq) r1
    obtain rfl : u = Value.ref a := r1
    exact repr_of_reads' rd hs (fun _ => hn) hg (by omega) (fun _ _ e => e) (fun h' u tk k => ⟨.str _, H, I.kept (t' := tk) k, ⟨_, rfl⟩, q⟩) hz
end
/-! ### promises where no repr runs around -/
structure FnOkG (P : Program) (w : World) (K : PySem.W.Frag) (mg : Str → Option Value) (base : Heap) (k : Nat) (f : Addr) (fd : FuncData) (ps : List Str) (sp : Sp) : Prop where
  len : ∀ vs H Q E, sp vs H Q E → vs.length = ps.length
  run : ∀ (A : Around) (outer : List Env) (s : Shared) (H : Hp) (args : Args) (us : List Value) (vs : List V) (Q : VK) (E : XK), A.guards = some [] → Room k A → Env0 P w K mg base A outer s H → BindsTo s fd args (ps.zip us) → Vals vs us → sp vs H Q E →
    codeAny (model P w) A (.call (.ref f) args) (CR CX0 outer P w H s Q E) s
theorem guards_deeper {A : Around} {env : Env} : (A.deeper env).guards = A.guards := by
  obtain ⟨hd, d, fr, gs, u⟩ := A
  cases gs <;> rfl
section
variable {P : Program} {w : World} {K : PySem.W.Frag} {mg : Str → Option Value} {base : Heap}
/-- THE RULE for a def (its body may ask for repr) -/
theorem okG {x qual : Str} {params : Arguments} {body : List Stmt} {scope : Scope} {dvs : List V} {kws : List (Str × V)} {f : Addr} {fd : FuncData} {N ps : List Str} {k : Nat} {sp : Sp} (F : FunD K x qual params body scope dvs kws f fd) (S : FnScope N ps scope) (len : ∀ vs H Q E, sp vs H Q E → vs.length = ps.length)
    (hbody : ∀ (cdv : Value) (A : Around) (outer : List Env) (s : Shared) (H : Hp) (vs : List V) (Q : VK) (E : XK), A.guards = some [] → Room k (A.deeper (envOfC qual scope s.heap.objs.size f cdv)) → sp vs H Q E →
      ∃ t, PSs (cxOf CX0 P w K mg base N qual scope f cdv A outer s H E) body t ∧ t { nx := fun _ H' => Q .non H', rt := Q } (start N vs) H) : FnOkG P w K mg base (k + 1) f fd ps sp := by
  refine ⟨len, fun A outer s H args us vs Q E hg hr e0 hb r hsp => ?_⟩
  obtain ⟨oc, od, dV, kV, doc, pm, an, cdv, ct, osl, rfl, lk, hcd, _, _⟩ := F.ex
  have hl := len _ _ _ _ hsp
  have KX : K.In s.heap := e0.mod.kin.keeps fun b o e => (e0.bs b o e).1
  have lim : s.heap.NoLimit := e0.mod.nolimit.keeps fun b o e => (e0.bs b o e).1
  have hkind : ∀ y ∈ ps.zip us, scope.names.lookup y.1 = some .local ∨ (scope.names.lookup y.1 = some .cell ∧ ((cellsFrom (s.heap.objs.size + 1) scope.names []).lookup y.1).isSome = true) := fun ⟨n, v⟩ hy => by
    rcases S.par n (List.of_mem_zip hy).1 with q | q
    · exact .inl q
    · exact .inr ⟨q, PySem.W.cellsFrom_some _ _ _ (.inl q)⟩
  refine codeAny_call_function hr.depth (KX _ _ lk) rfl S.co S.gen rfl (PySem.W.codeRec_of KX hcd) (hb _ _ _ _ ?_)
  refine wpAny_newFunctionEnv_cells S.kind hkind fun env he s1 x => ?_
  subst he
  refine ⟨lim.keeps x.toInCall.keep, codeAny_func ?_⟩
  obtain ⟨t, ht, hq⟩ := hbody cdv A outer s H vs Q E hg (hr.deeper _) hsp
  have I : Inv (cxOf CX0 P w K mg base N qual scope f cdv A outer s H E) [] (start N vs) H s1 := inv_start S hr.hd e0 hl r x
  refine wpAny_mono (ht.run [] s1 (start N vs) H _ I hq) (fun fl s' hs => ?_) fun e s' hs => hs
  have fin : ∀ {σ' : L2.St} {H' : Hp} {v : V} {u : Value}, Inv (cxOf CX0 P w K mg base N qual scope f cdv A outer s H E) [] σ' H' s' → RelV v u → Q v H' → CE outer P w H s Q u s' :=
    fun {σ' H' v u} J rv q => ⟨v, H', J.os, J.bare, J.base, J.hok, rv, q⟩
  cases fl with
  | ret u =>
    obtain ⟨v, σ', H', J, rv, q⟩ := hs
    exact fin J rv q
  | next =>
    obtain ⟨σ', H', J, q⟩ := hs
    exact fin (v := V.non) (u := Value.none) J rfl q
  | brk =>
    obtain ⟨_, _, _, q⟩ := hs
    exact False.elim q
  | cont =>
    obtain ⟨_, _, _, q⟩ := hs
    exact False.elim q
end
section
variable {X : Cx} {k : Nat} {f : Addr} {fd : FuncData} {ps : List Str} {sp : Sp} {x : Str} {p pos : Pos} {e : Expr} {es : List Expr} {t : TA}
theorem pe_callG (F : FnOkG X.prog X.w X.K X.mg X.base k f fd ps sp) (hG : X.A.guards = some []) (hr : Room k X.A) (hg : Gl X x) (hm : X.mg x = some (.ref f)) (hk : PySem.W.keepIn X.K (.ref f) = true) (hb : Binds X.K fd ps [])
    (ha : PA X (e :: es) t) (hdb : (x == ("__debug__" : Str)) = false := by decide) (he : starEach (e :: es) X.env = (false, eval e X.env) :: starEach es X.env := by rfl) (hpl : (backTo pos (starEach es X.env)).any (·.1) = false := by rfl) :
    PE X (.Call (.Name x p) (e :: es) [] pos) (tCall sp [] E0 t) := by
  refine ⟨fun pins s σ H Q I h => ?_⟩
  refine wpAny_Call_Name_kw (ld_glob I hg hm ?_ hdb)
  refine PySem.W.callWith_K (h₀ := X.base) I.ok.mod.kin hk (thn (ha.run pos pins s σ H _ I h) fun us s1 ⟨vs, H1, I1, r, q⟩ => ⟨I1.kIn, ?_⟩) he hpl
  have q0 : sp (vs ++ []) H1 Q E0 := q
  rw [List.append_nil] at q0
  have hl : us.length = ps.length := by rw [← r.length]; exact F.len _ _ _ _ q0
  have hbt := hb s1 us I1.kIn (by rw [List.append_nil]; exact hl)
  rw [List.append_nil] at hbt
  refine wpAny_call (codeAny_mono (F.run X.A X.stack s1 H1 ⟨us, []⟩ us vs Q E0 hG hr I1.env0 hbt r q0) fun r s' hq => ?_)
  cases r with
  | error e => exact False.elim hq
  | ok fl =>
    cases fl with
    | ret u => exact I1.after hq
    | next => exact False.elim hq
    | brk => exact False.elim hq
    | cont => exact False.elim hq
end
section
variable {P : Program} {w : World} {K : PySem.W.Frag} {mg mb : Str → Option Value} {k : Nat} {fa a : Addr} {fd : FuncData} {x : Str} {sp : Sp} {s₁ : Shared} {vs : List Value} {ns : List Int}
/-- the law called, from an abstract heap that tracks nothing but the script -/
theorem law_coreG (KX : K.In s₁.heap) (hns : s₁.heap.Ns mainGlobals mg) (hb : s₁.heap.Ns builtinsNs mb) (hbb : ∀ x : Str, x ≠ "__name__" → mb x = bootBuiltins x) (hlim : s₁.heap.NoLimit) (hg : s₁.gens = #[])
    (ha : s₁.heap.get? a = some { cls := .type "list", data := .seq vs.toArray }) (hr : Room k callerA)
    (F : ∀ base : Heap, K.In base → base.Ns mainGlobals mg → FnOkG P w K mg base k fa fd [x] sp) (hbind : ∀ (s : Shared) (u : Value), BindsTo s fd ⟨[u], []⟩ [(x, u)])
    (hsp : ∀ H : Hp, Only H → SqL K H a (ns.map V.int) → sp [.ref a] H (fun v _ => v = .bl true) fun _ _ _ => False)
    (H : Hp) (hO : Only H) (hS : SqL K H a (ns.map V.int)) (hok : HOk P w H s₁.heap) (hA : ∀ b, H b ≠ none → b = a) (hK : H a ≠ none → K.lookup a = none) :
    codeAny (model P w) callerA (.call (.ref fa) ⟨[.ref a], []⟩) (fun r s' => r = .ok (.ret (.bool true)) ∧ OldK s₁.heap s'.heap ∧ s'.os = s₁.os ∧ AllBare s'.gens) s₁ := by
  have only : ∀ {b : Addr}, (H b = none → False) → b = a := fun {b} z => hA b fun q => z q
  have free : ∀ {b : Addr} {o : Obj}, s₁.heap.get? b = some o → (∀ vs n, o.data ≠ .seq vs n) → H b = none := fun {b o} e d => Classical.byContradiction fun z => by
    have eb := only (b := b) z
    rw [eb, ha] at e
    cases e
    exact d _ _ rfl
  have names : ∀ {b : Addr} {m : Str → Option Value}, s₁.heap.Ns b m → (hidT s₁.heap H).Ns b m := fun {b m} ⟨o, es, ep, e, d, r⟩ => ⟨o, es, ep, hidT_get e (free e fun vs n q => by rw [d] at q; cases q), d, r⟩
  have kin : K.In (hidT s₁.heap H) := fun b o e => hidT_get (KX b o e) (Classical.byContradiction fun z => by
    have eb := only (b := b) z
    rw [eb] at e z
    rw [hK z] at e
    cases e)
  have M : Mod K mg (hidT s₁.heap H) := ⟨kin, names hns, ⟨mb, names hb, hbb⟩, let ⟨mc, h1, h2⟩ := hlim; ⟨mc, names h1, h2⟩⟩
  have e0 : Env0 P w K mg (hidT s₁.heap H) callerA [] s₁ H := ⟨rfl, M, fun b o e => of_hidT e, Nat.le_of_eq (hidT_size _ _), trivial, fun b hb => absurd (show b ∈ ([] : List Addr) from hb) (by simp), hok, .of_eq hg⟩
  refine codeAny_mono ((F _ kin (names hns)).run callerA [] s₁ H ⟨[.ref a], []⟩ [.ref a] [.ref a] _ _ rfl hr e0 (hbind s₁ (.ref a)) (.cons rfl .nil) (hsp H hO hS)) fun r s' h => ?_
  match r, h with
  | .error e, h => exact False.elim h
  | .ok (.ret u), h =>
    obtain ⟨v, H', os, bare, un, hok', r', q⟩ := h
    obtain rfl : v = .bl true := q
    obtain rfl : u = Value.bool true := r'
    refine ⟨rfl, OldK.of_keep fun b o e => ?_, os, bare⟩
    rcases hO b with z | ⟨ob, xs, z⟩
    · exact un.keep b o e z (fun z => absurd (show b ∈ ([] : List Addr) from z) (by simp)) (by simp)
    · obtain ⟨e1, _⟩ := hok b _ z
      obtain ⟨e2, _⟩ := hok' b _ (un.frzs b ob _ z)
      rw [e] at e1
      cases e1
      exact e2
theorem law_callG (KX : K.In s₁.heap) (hns : s₁.heap.Ns mainGlobals mg) (hb : s₁.heap.Ns builtinsNs mb) (hbb : ∀ x : Str, x ≠ "__name__" → mb x = bootBuiltins x) (hlim : s₁.heap.NoLimit) (hg : s₁.gens = #[])
    (ha : s₁.heap.get? a = some { cls := .type "list", data := .seq vs.toArray }) (hi : IntsAre vs ns) (hl : ns.length ≤ sizeLine) (hr : Room k callerA)
    (F : ∀ base : Heap, K.In base → base.Ns mainGlobals mg → FnOkG P w K mg base k fa fd [x] sp) (hbind : ∀ (s : Shared) (u : Value), BindsTo s fd ⟨[u], []⟩ [(x, u)])
    (hsp : ∀ H : Hp, Only H → SqL K H a (ns.map V.int) → sp [.ref a] H (fun v _ => v = .bl true) fun _ _ _ => False) :
    codeAny (model P w) callerA (.call (.ref fa) ⟨[.ref a], []⟩) (fun r s' => r = .ok (.ret (.bool true)) ∧ OldK s₁.heap s'.heap ∧ s'.os = s₁.os ∧ AllBare s'.gens) s₁ := by
  have rv := vals_ints hi
  cases hk : K.lookup a with
  | some o =>
    have e := KX a o hk
    rw [ha] at e
    cases e
    exact law_coreG KX hns hb hbb hlim hg ha hr F hbind hsp (fun _ => none) (fun _ => .inl rfl) (.inr ⟨_, vs.toArray, _, hk, rfl, rfl, rfl, by rw [List.size_toArray, hi.length]; exact hl, by simpa using rv⟩) (fun b u z => nomatch (show (none : Option HO) = some u from z)) (fun b z => absurd rfl z) fun z => absurd rfl z
  | none =>
    refine law_coreG KX hns hb hbb hlim hg ha hr F hbind hsp (fun b => if b = a then some (.frz { cls := .type "list", data := .seq vs.toArray } (.lst (ns.map V.int))) else none) (fun b => ?_) (.inl (.inr ⟨{ cls := .type "list", data := .seq vs.toArray }, if_pos rfl⟩)) (fun b u z => ?_) (fun b z => ?_) fun _ => hk
    · by_cases hb : b = a
      · exact .inr ⟨_, _, if_pos hb⟩
      · exact .inl (if_neg hb)
    · by_cases hb : b = a
      · have z' := (if_pos hb).symm.trans z
        cases z'
        rw [hb]
        exact ⟨ha, by rw [List.length_map]; exact hl, vs, _, rv, ha⟩
      · have z' := (if_neg hb).symm.trans z
        cases z'
    · by_cases hb : b = a
      · exact hb
      · exact absurd (if_neg hb) z
end
/-- the end of a law whose promise is such -/
theorem walk_ofG {l : PySem.W.OpenLaw} {n k : Nat} {q : Program} {loose : List Str} {XP : (Str → Option Value) → Heap → Prop} {YP : World → Heap → Prop} {d : DefRec} {x : Str}
    (hn : l.most = some n) (hn2 : n ≤ sizeLine) (hdf : d.params.defaults = []) (hr : Room k callerA)
    (F : ∀ (w : World) (mg : Str → Option Value) (fa : Addr) (h : Heap), YP w h → h.Ns mainGlobals mg → mg d.name = some (.ref fa) →
      ∃ (K : PySem.W.Frag) (fd : FuncData) (sp : Sp), K.In h ∧ (∀ (s : Shared) (u : Value), BindsTo s fd ⟨[u], []⟩ [(x, u)]) ∧
        (∀ (H : Hp) (a : Addr) (ns : List Int), ns.length ≤ n → Only H → SqL K H a (ns.map V.int) → sp [.ref a] H (fun v _ => v = .bl true) fun _ _ _ => False) ∧
        ∀ base : Heap, K.In base → base.Ns mainGlobals mg → FnOkG l.prog w K mg base k fa fd [x] sp) :
    PySem.W.WalkO q loose XP YP l.row.toRowW d [] (fun f vs => PySem.call f vs) := by
  refine Att.attach_call hn hdf fun w s₀ s₁ mg mb fa o pm cd doc a vs ns G Y ho hd hcd hmg hobj hints hlen hg => ?_
  obtain ⟨K, fd, sp, KX, hb, hsp, hF⟩ := F w mg fa _ Y G.T.g hmg
  exact law_callG KX G.T.g G.T.b G.T.builtins G.T.nolimit hg hobj hints (Nat.le_trans hlen hn2) hr hF hb (fun H hO hS => hsp H a ns hlen hO hS)
end EX2
set_option Elab.async false
set_option linter.all false
set_option maxRecDepth 100000
set_option maxHeartbeats 4000000
namespace EX2
open PySem PySem.Spec PyProof.Rows L2
/-! ### the head's facts -/
abbrev FnZ : Type := Option (Str × Str × Arguments × FuncBody × Scope × Addr × List Str × Addr)
def ini (K : PySem.W.Frag) (C : Str) : Addr := He.ma K (He.ga K C) "__init__"
def suW (K : PySem.W.Frag) (C : Str) : FnZ := match K.lookup (ini K C) with
  | some ⟨_, _, .func fd, _⟩ => some (fd.name, fd.qualname, fd.params, fd.body, fd.scope, fd.globals, fd.closure.map (·.1), fd.builtins)
  | _ => none
/-- an __init__ that says super().__init__: its class's name, its text, its fields -/
structure SuD where
  cls : Str
  qual : Str
  st : Stmt
  flds : List Str
def SuD.val (d : SuD) : FnZ := some ("__init__", d.qual, defArgs d.st, .stmts (defBody d.st), defScope d.st, mainGlobals, ["__class__"], builtinsNs)
def noneB : Value → Bool
  | .none => true
  | _ => false
theorem noneB_ok {v : Value} (h : noneB v = true) : v = .none := by
  cases v with
  | none => rfl
  | _ => cases h
def cellB (K : PySem.W.Frag) (D : Addr) (cl : List (Str × Addr)) : Bool := match cl with
  | [(_, cc)] => (match K.lookup cc with
    | some ⟨_, _, .cell (some (.ref D')), _⟩ => decide (D' = D)
    | _ => false)
  | _ => false
def fileB (K : PySem.W.Frag) (file : Str) (cd : Value) : Bool := match cd with
  | .ref c => (match K.lookup c with
    | some ⟨_, _, .fields vs, _⟩ => (match vs[2]? with
      | some (Value.str f _) => file == f
      | _ => false)
    | _ => false)
  | _ => false
def SuD.ok (file : Str) (K : PySem.W.Frag) (d : SuD) : Bool := match K.lookup (ini K d.cls) with
  | some ⟨_, _, .func fd, _⟩ => PySem.W.codeIn K fd.code d.qual && (noneB fd.defaults && (noneB fd.kwdefaults && (fd.annotations.isNone && (cellB K (He.ga K d.cls) fd.closure && fileB K file fd.code))))
  | _ => false
def clsB (K : PySem.W.Frag) (C B f : Addr) (flds : List Str) : Bool :=
  PySem.W.excInitIn K C bmE "Exception.__new__" && (PySem.W.excOver K C bmE && (PySem.W.hasDictIn K C && (He.eqO (PySem.W.findIn K (.ref C) "__setattr__") (some (some (.builtin "object.__setattr__"))) &&
  (decide (PySem.W.typeIn K (.ref C) = some (.type "type")) && (PySem.W.keepIn K (.ref C) &&
  (He.eqO (PySem.W.findIn K (.ref C) "__getattribute__") (some (some (.builtin "BaseException.__getattribute__"))) && (He.eqO (PySem.W.findIn K (.ref C) "__getattr__") (some none) &&
  (He.eqO (PySem.W.findIn K (.ref C) "__class__") (some (some (.builtin "object.__class__"))) && (He.eqO (PySem.W.findIn K (.ref C) "__init__") (some (some (.ref f))) && (decide (PySem.W.typeIn K (.ref f) = some (.type "function")) &&
  (He.eqO (PySem.W.ks_superIn K C C "__init__") (some (some (.builtin "Exception.__init__"))) && ((PySem.W.clsIn K C).any (fun cd => decide (cd.mro = .ref C :: .ref B :: bmE)) && flds.all fun x => He.eqO (PySem.W.findIn K (.ref C) x) (some none)))))))))))))
/-- the same of all classes: two facts of built-in things -/
def bltB (K : PySem.W.Frag) : Bool := He.eqO (PySem.W.specialIn K (.builtin "object.__class__") "__get__") (some (some (.builtin "getset_descriptor.__get__"))) && (decide (PySem.W.takesIn K (.builtin "object.__class__") = some true) &&
  (He.eqO (PySem.W.nsIn K cStatics "thirdparty.any") (some none) && He.dictB K sysModules))
def sudB (file : Str) (K : PySem.W.Frag) (B : Str) (xs : List SuD) : Bool := bltB K && (xs.all fun d => clsB K (He.ga K d.cls) (He.ga K B) (ini K d.cls) d.flds && d.ok file K)
/-- what is told of a class -/
structure ClsG (K : PySem.W.Frag) (C B f : Addr) (flds : List Str) : Prop where
  t : ExK K C
  x : XfC K C
  c : ExcC K C
  at_ : PySem.W.findIn K (.ref C) "__init__" = some (some (.ref f))
  ty : PySem.W.typeIn K (.ref f) = some (.type "function")
  su : PySem.W.ks_superIn K C C "__init__" = some (some (.builtin "Exception.__init__"))
  mro : ∃ cd, PySem.W.clsIn K C = some cd ∧ cd.mro = .ref C :: .ref B :: bmE
  no : ∀ x ∈ flds, PySem.W.findIn K (.ref C) x = some none
theorem mro_of {K : PySem.W.Frag} {C B : Addr} (h : ∃ cd, PySem.W.clsIn K C = some cd ∧ cd.mro = .ref C :: .ref B :: bmE) (b : Value) : PySem.W.mroIn K C b = some ((Value.ref C :: .ref B :: bmE).contains b) := by
  obtain ⟨cd, h1, h2⟩ := h
  unfold PySem.W.mroIn
  rw [h1, Option.bind_some, h2, if_neg (by simp)]
theorem has_ty {C B : Addr} (T : String) (h : bmE.contains (.type T) = true) : (Value.ref C :: .ref B :: bmE).contains (.type T) = true := by
  rw [List.contains_cons, List.contains_cons, h, Bool.or_true, Bool.or_true]
theorem clsB_ok {K : PySem.W.Frag} {C B f : Addr} {flds : List Str} (hb : bltB K = true) (h : clsB K C B f flds = true) : ClsG K C B f flds := by
  unfold clsB at h
  simp only [Bool.and_eq_true] at h
  obtain ⟨h1, h2, h3, h4, h5, h6, h7, h8, h9, h10, h11, h12, h13, h14⟩ := h
  unfold bltB at hb
  simp only [Bool.and_eq_true] at hb
  obtain ⟨b1, b2, b3, b4⟩ := hb
  have hm : ∃ cd, PySem.W.clsIn K C = some cd ∧ cd.mro = .ref C :: .ref B :: bmE := by
    obtain ⟨cd, e1, e2⟩ := PySem.W.any_some h13
    exact ⟨cd, e1, of_decide_eq_true e2⟩
  have s1 : PySem.W.subIn K (.ref C) (.type "BaseException") = some true := (mro_of hm _).trans (congrArg some (has_ty _ (by decide +kernel)))
  have s2 : PySem.W.subIn K (.ref C) (.type "Exception") = some true := (mro_of hm _).trans (congrArg some (has_ty _ (by decide +kernel)))
  have s3 : PySem.W.mroIn K C (.type "object") = some true := (mro_of hm _).trans (congrArg some (has_ty _ (by decide +kernel)))
  refine ⟨⟨h1, h2, h3, He.eqO_ok h4, s1, s2, of_decide_eq_true h5, h6⟩, ⟨He.eqO_ok h7, He.eqO_ok h8, s1, h3⟩, ⟨He.eqO_ok h7, He.eqO_ok h8, s1, h3, He.eqO_ok h9, He.eqO_ok b1, of_decide_eq_true b2, s3⟩, He.eqO_ok h10, of_decide_eq_true h11, He.eqO_ok h12, hm, fun x hx => He.eqO_ok (List.all_eq_true.mp h14 x hx)⟩
theorem ClsG.self {K : PySem.W.Frag} {C B f : Addr} {flds : List Str} (g : ClsG K C B f flds) : PySem.W.mroIn K C (.ref C) = some true := (mro_of g.mro _).trans (by simp)
/-- isinstance: another such class, the base, a built-in type that is not above -/
theorem ClsG.kit {K : PySem.W.Frag} {C B f D f' : Addr} {flds flds' : List Str} (g : ClsG K C B f flds) (g' : ClsG K D B f' flds') (h : D ≠ B) : PySem.W.kitOne K (.ref C) (.ref D) = some (decide (C = D)) := by
  unfold PySem.W.kitOne
  by_cases e : C = D
  · subst e
    rw [if_pos (by simp), decide_eq_true rfl]
  · have e' : (Value.ref C == Value.ref D) = false := by simp [e]
    rw [e', if_neg (by simp), decide_eq_false e]
    obtain ⟨cd, h1, h2⟩ := g'.mro
    show (if ((PySem.W.clsIn K D).isSome && PySem.W.typeIn K (.ref D) == some (.type "type")) = true then PySem.W.subIn K (.ref C) (.ref D) else none) = some false
    rw [h1, g'.t.tyC, if_pos (by rfl)]
    refine (mro_of g.mro _).trans ?_
    simp [Ne.symm e, h]
theorem ClsG.kitB {K : PySem.W.Frag} {C B f : Addr} {flds : List Str} (g : ClsG K C B f flds) (hB : ((PySem.W.clsIn K B).isSome && PySem.W.typeIn K (.ref B) == some (.type "type")) = true) : PySem.W.kitOne K (.ref C) (.ref B) = some true := by
  unfold PySem.W.kitOne
  by_cases e : C = B
  · subst e
    rw [if_pos (by simp)]
  · have e' : (Value.ref C == Value.ref B) = false := by simp [e]
    rw [e', if_neg (by simp)]
    show (if ((PySem.W.clsIn K B).isSome && PySem.W.typeIn K (.ref B) == some (.type "type")) = true then PySem.W.subIn K (.ref C) (.ref B) else none) = some true
    rw [if_pos hB]
    exact (mro_of g.mro _).trans (by simp)
theorem ClsG.kitT {K : PySem.W.Frag} {C B f : Addr} {flds : List Str} (g : ClsG K C B f flds) {T : String} {b : Bool} (hm : PySem.W.kitMeta T = true) (h : bmE.contains (.type T) = b) : PySem.W.kitOne K (.ref C) (.type T) = some b := by
  unfold PySem.W.kitOne
  have e' : (Value.ref C == Value.type T) = false := rfl
  rw [e', if_neg (by simp)]
  show (if PySem.W.kitMeta T = true then PySem.W.subIn K (.ref C) (.type T) else none) = some b
  rw [if_pos hm]
  refine (mro_of g.mro _).trans ?_
  rw [List.contains_cons, List.contains_cons, h]
  rfl
theorem suF_of {P : Program} {K : PySem.W.Frag} {d : SuD} (g : ClsG K (He.ga K d.cls) B (ini K d.cls) d.flds) (e : suW K d.cls = d.val) (c : d.ok P.main.file K = true) : ∃ fd, SuF P K d.qual d.st (He.ga K d.cls) (ini K d.cls) fd := by
  unfold suW at e
  unfold SuD.ok at c
  cases q : K.lookup (ini K d.cls) with
  | none =>
    rw [q] at c
    cases c
  | some o =>
    obtain ⟨oc, od, dt, osl⟩ := o
    rw [q] at c e
    cases dt with
    | func fd =>
      obtain ⟨n1, n2, n3, n4, n5, n6, n7, n8, n9, n10, n11, n12, n13, n14, n15⟩ := fd
      have e2 : (some (n1, n2, n3, n4, n5, n6, n7.map (·.1), n15) : FnZ) = some ((("__init__" : Str), d.qual, defArgs d.st, FuncBody.stmts (defBody d.st), defScope d.st, mainGlobals, [("__class__" : Str)], builtinsNs) : Str × Str × Arguments × FuncBody × Scope × Addr × List Str × Addr) := e
      simp only [Option.some.injEq, Prod.mk.injEq] at e2
      obtain ⟨h1, h2, h3, h4, h5, h6, h7, h8⟩ := e2
      subst h1 h2 h3 h4 h5 h6 h8
      have c2 : (PySem.W.codeIn K n13 d.qual && (noneB n8 && (noneB n9 && (n12.isNone && (cellB K (He.ga K d.cls) n7 && fileB K P.main.file n13))))) = true := c
      simp only [Bool.and_eq_true] at c2
      obtain ⟨k1, k2, k3, k4, k5, k6⟩ := c2
      obtain rfl := noneB_ok k2
      obtain rfl := noneB_ok k3
      obtain rfl : n12 = none := by
        cases n12 with
        | none => rfl
        | some a => cases k4
      obtain ⟨cd, rfl⟩ := He.codeIn_ref k1
      match n7, h7, k5 with
      | [(y, cc)], h7, k5 =>
        obtain rfl : y = ("__class__" : Str) := List.head_eq_of_cons_eq h7
        unfold cellB at k5
        dsimp only at k5
        unfold fileB at k6
        dsimp only at k6
        split at k5
        · rename_i kc kd D' ks lcc
          split at k6
          · rename_i fc fdd vs fs lc
            split at k6
            · rename_i ff ft hv
              have hD : D' = He.ga K d.cls := of_decide_eq_true k5
              subst hD
              exact ⟨_, ⟨oc, od, osl, n10, n11, n14, cc, cd, _, _, vs, ff, ft, rfl, q, k1, lcc, rfl, lc, rfl, hv, k6⟩, g.at_, g.ty⟩
            · cases k6
          · cases k6
        · cases k5
    | _ => cases c
/-! ### the Hook -/
abbrev AlY : Type := (He.AlT × Bool) × List FnZ
def frY (g : Addr → Option Obj) (n : Nat) : PySem.W.Frag := He.frT g (sysModules :: cStatics :: He.asD g n)
def obsY (n : Nat) (fa : List He.Fa) (fn : List He.DefD) (xs : List SuD) (ex : PySem.W.Frag → Bool) (g : Addr → Option Obj) : AlY := ((He.obsT fa fn [] (frY g n), ex (frY g n)), xs.map fun d => suW (frY g n) d.cls)
def valY (fn : List He.DefD) (xs : List SuD) (w : World) : AlY := ((He.valT fn [] w, true), xs.map SuD.val)
structure SaysY (fa : List He.Fa) (fn : List He.DefD) (xs : List SuD) (ex : PySem.W.Frag → Bool) (w : World) (K : PySem.W.Frag) : Prop where
  t : He.SaysT fa fn [] w K
  more : ex K = true
  sup : xs.map (fun d => suW K d.cls) = xs.map SuD.val
def hookY (n : Nat) (fa : List He.Fa) (fn : List He.DefD) (xs : List SuD) (ex : PySem.W.Frag → Bool) : PySem.W.Hook where
  α := AlY
  obs := fun s => obsY n fa fn xs ex s.heap.get?
  val := fun w => valY fn xs w
  says := fun w h => ∃ K : PySem.W.Frag, K.In h ∧ SaysY fa fn xs ex w K
  of := fun _ _ e => ⟨_, He.frT_in, congrArg (fun z : AlY => z.1.1) e, congrArg (fun z : AlY => z.1.2) e, congrArg (fun z : AlY => z.2) e⟩
  keeps := fun _ _ _ ⟨K, hK, c⟩ k => ⟨K, PySem.W.Frag.In.keeps hK k, c⟩
theorem obsY_eq {n : Nat} {fa : List He.Fa} {fn : List He.DefD} {xs : List SuD} {ex : PySem.W.Frag → Bool} {g : Addr → Option Obj} {s : Shared} (h : ∀ a, g a = s.heap.get? a) : obsY n fa fn xs ex g = (hookY n fa fn xs ex).obs s := by
  have e : g = s.heap.get? := funext h
  rw [e] <;> rfl
/-- all that is told of the i-th such class -/
theorem sud_at {P : Program} {K : PySem.W.Frag} {B : Str} {xs : List SuD} (hb : sudB P.main.file K B xs = true) (hs : xs.map (fun d => suW K d.cls) = xs.map SuD.val) (i : Nat) {d : SuD} (h : xs[i]? = some d := by rfl) :
    ClsG K (He.ga K d.cls) (He.ga K B) (ini K d.cls) d.flds ∧ ∃ fd, SuF P K d.qual d.st (He.ga K d.cls) (ini K d.cls) fd := by
  unfold sudB at hb
  rw [Bool.and_eq_true] at hb
  have h1 := List.all_eq_true.mp hb.2 d (List.mem_of_getElem? h)
  rw [Bool.and_eq_true] at h1
  have g := clsB_ok hb.1 h1.1
  refine ⟨g, suF_of g ?_ h1.2⟩
  have e2 : (xs.map fun d => suW K d.cls)[i]? = (xs.map SuD.val)[i]? := by rw [hs]
  rw [List.getElem?_map, List.getElem?_map, h] at e2
  exact Option.some.inj e2
theorem sysD_of {K : PySem.W.Frag} {h : Heap} (hb : bltB K = true) (X : K.In h) : SysD h := by
  unfold bltB at hb
  simp only [Bool.and_eq_true] at hb
  obtain ⟨es, n, sl, e⟩ := He.dictB_ok hb.2.2.2
  exact ⟨_, es, n, X _ _ e, rfl⟩
end EX2
set_option Elab.async false
set_option linter.all false
set_option maxRecDepth 100000
set_option maxHeartbeats 0
namespace K30
open PySem PySem.Spec PyProof.Rows L2
abbrev RW : PySem.W.OpenLaw := PySem.Challenge.rw_lateclasses_k30_exceptions
def top (i : Nat) : Stmt := PySem.Challenge.pw_lateclasses_k30_exceptions.main.body.getD i (.Pass ⟨0, 0, 0, 0⟩)
def dfn (x : Str) (i : Nat) : He.DefD := ⟨(x, none), x, x, defArgs (top i), defBody (top i), defScope (top i), [], []⟩
def fn : List He.DefD := [dfn "_law_source" 22, dfn "_law_draw" 23, dfn "_law_all" 24, dfn "_law_held" 25, dfn "_law_others_right" 26, dfn "_law_kinds" 27, dfn "law" 28]
def sd (c q : Str) (i : Nat) (fl : List Str) : EX2.SuD := ⟨c, q, inClass (top i) 0, fl⟩
def xs : List EX2.SuD := [sd "InvalidName" "InvalidName.__init__" 2 ["given"], sd "InvalidMethod" "InvalidMethod.__init__" 3 ["given"], sd "InvalidClass" "InvalidClass.__init__" 4 ["given"], sd "InvalidTable" "InvalidTable.__init__" 5 ["given"],
  sd "NameTaken" "NameTaken.__init__" 6 ["given"], sd "UnknownLoader" "UnknownLoader.__init__" 7 ["given"], sd "UnknownClass" "UnknownClass.__init__" 8 ["loader", "word"], sd "NameFixed" "NameFixed.__init__" 9 ["loader", "word"],
  sd "LimitExceeded" "LimitExceeded.__init__" 10 ["limit"], sd "Failing" "Failing.__init__" 11 ["failure"], sd "ParseError" "ParseError.__init__" 12 ["line"], sd "InvalidValues" "InvalidValues.__init__" 13 ["given"],
  sd "InvalidChoices" "InvalidChoices.__init__" 14 ["given"], sd "InvalidLimit" "InvalidLimit.__init__" 15 ["given"], sd "InvalidOperand" "InvalidOperand.__init__" 16 ["given"], sd "InvalidJournal" "InvalidJournal.__init__" 17 ["given"],
  sd "InvalidCommand" "InvalidCommand.__init__" 18 ["given"], sd "UnknownName" "UnknownName.__init__" 19 ["given"], sd "NotLoaded" "NotLoaded.__init__" 20 ["given"]]
def clsNames : List Str := xs.map (·.cls)
def fa : List He.Fa := [.glo "ClassError", .glo "_law_source", .glo "_law_draw", .glo "_law_all", .glo "_law_held", .glo "_law_others_right", .glo "_law_kinds", .glo "law"] ++ (clsNames.map He.Fa.glo) ++
  [.free "isinstance", .free "len", .free "repr", .free "max", .free "min", .free "int", .free "range", .free "super", .free "ValueError", .free "LookupError", .free "RuntimeError", .free "OverflowError", .free "TypeError"]
def ex (K : PySem.W.Frag) : Bool := EX2.sudB PySem.Challenge.pw_lateclasses_k30_exceptions.main.file K "ClassError" xs && (decide (((("ClassError" : Str)) :: clsNames).map (He.ga K)).Nodup && ((PySem.W.clsIn K (He.ga K "ClassError")).isSome && PySem.W.typeIn K (.ref (He.ga K "ClassError")) == some (.type "type")))
abbrev R : PySem.W.OpenRow := PySem.W.OpenLaw.row RW
abbrev hk : PySem.W.Hook := EX2.hookY 4 fa fn xs ex
def ob (s : PySem.W.SharedT) : EX2.AlY := EX2.obsY 4 fa fn xs ex (HandSHeadRun.getT s)
theorem ob_eq (s : PySem.W.SharedT) : ob s = hk.obs s.abs := EX2.obsY_eq (HandSHeadRun.getT_eq s)
def loose : List PySem.Str := ([("ClassError" : PySem.Str)] : List PySem.Str) ++ clsNames ++ [("_law_source" : PySem.Str), "_law_draw", "_law_all", "_law_held", "_law_others_right", "_law_kinds"]
theorem run (w : World) : HandSHeadRun.RunEq R (PySem.W.view R.prog [28]) hk ob 12000 loose w := by
  intro os
  kernel_rfl
end K30
set_option Elab.async false
set_option linter.all false
set_option maxRecDepth 100000
set_option maxHeartbeats 0
namespace K30
open PySem PySem.Spec PyProof.Rows L2
abbrev FnP (K : PySem.W.Frag) (x : Str) (st : Stmt) (f : Addr) (fd : FuncData) : Prop := FunD K x x (defArgs st) (defBody st) (defScope st) [] [] f fd
/-- the globals that stay free -/
structure Txt (mg : Str → Option Value) : Prop where
  isi : mg "isinstance" = none
  len : mg "len" = none
  rep : mg "repr" = none
  max : mg "max" = none
  min : mg "min" = none
  int : mg "int" = none
  rng : mg "range" = none
  sup : mg "super" = none
  ve : mg "ValueError" = none
  le : mg "LookupError" = none
  re : mg "RuntimeError" = none
  oe : mg "OverflowError" = none
  te : mg "TypeError" = none
abbrev sSource : Stmt := top 22
abbrev sDraw : Stmt := top 23
abbrev sAll : Stmt := top 24
abbrev sHeld : Stmt := top 25
abbrev sOthers : Stmt := top 26
abbrev sKinds : Stmt := top 27
abbrev sLaw : Stmt := top 28
abbrev nSource : List Str := ["_law_script", "_law_turn", "_law_cell", "_law_number", "_law_seed"]
abbrev nDraw : List Str := ["_law_source_here", "_law_amount", "_law_digit"]
def spSource (K : PySem.W.Frag) : Sp := fun vs H Q _ => ∃ (a : Addr) (ns : List Int) (t : Int), vs = [.ref a, .int t] ∧ SqL K H a (ns.map V.int) ∧ 0 ≤ t ∧ t < 100 ∧
  ∀ p N S, H p = none → 0 ≤ N → 0 ≤ S → S < 2147483647 → Q (.ref p) (upd H p (.lst [.int N, .int S]))
def spDraw : Sp := fun vs H Q _ => ∃ (p : Addr) (N S m : Int), vs = [.ref p, .int m] ∧ H p = some (.lst [.int N, .int S]) ∧ 0 ≤ N ∧ 0 ≤ S ∧ S < 2147483647 ∧ 0 < m ∧ m.natAbs.log2 < 9000 ∧
  ∀ d N' S', 0 ≤ d → d < m → 0 ≤ N' → 0 ≤ S' → S' < 2147483647 → Q (.int d) (upd H p (.lst [.int N', .int S']))
section
variable {P : Program} {w : World} {K : PySem.W.Frag} {mg : Str → Option Value} {base : Heap} {f : Addr} {fd : FuncData}
theorem scSource : FnScope nSource ["_law_script", "_law_turn"] (defScope sSource) := ⟨rfl, rfl, rfl, by decide +kernel, rfl, by decide +kernel, by decide +kernel⟩
theorem scDraw : FnScope nDraw ["_law_source_here", "_law_amount"] (defScope sDraw) := ⟨rfl, rfl, rfl, by decide +kernel, rfl, by decide +kernel, by decide +kernel⟩
theorem boot_len : bootBuiltins "len" = some (.builtin "len") := by kernel_rfl
theorem boot_max : bootBuiltins "max" = some (.builtin "max") := by kernel_rfl
theorem boot_min : bootBuiltins "min" = some (.builtin "min") := by kernel_rfl
theorem boot_rep : bootBuiltins "repr" = some (.builtin "repr") := by kernel_rfl
theorem boot_int : bootBuiltins "int" = some (.type "int") := by kernel_rfl
theorem boot_isi : bootBuiltins "isinstance" = some (.builtin "isinstance") := by kernel_rfl
theorem atI_int {ns : List Int} {t : Int} (h0 : 0 ≤ t) (h1 : t < (ns.map V.int).length) : ∃ c, L2.atI (ns.map V.int) t = some (.int c) := by
  obtain ⟨k, rfl⟩ := Int.eq_ofNat_of_zero_le h0
  have hk : k < ns.length := by rw [List.length_map] at h1; exact Int.ofNat_lt.mp h1
  exact ⟨ns[k], atI_nat (by rw [List.getElem?_map, List.getElem?_eq_getElem hk]; rfl)⟩
theorem two_ok : 2 ≤ sizeLine := by rw [sizeLine_eq]; decide
theorem le_line {n : Nat} (h : n ≤ 1000) : n ≤ sizeLine := Nat.le_trans h (by rw [sizeLine_eq]; decide)
theorem ok_source (F : FnP K "_law_source" sSource f fd) (T : Txt mg) : FnOk P w K mg base CX0 1 f fd ["_law_script", "_law_turn"] (spSource K) := by
  refine F.ok scSource (fun vs H Q E h => ?_) (fun cdv A outer s H vs Q E hr h => ?_)
  · obtain ⟨a, ns, t, rfl, _⟩ := h
    rfl
  · obtain ⟨a, ns, t, rfl, hS, h0, h1, hQ⟩ := h
    refine ⟨_, PSs.nox (pss_cons (ps_set (i := 2) scSource.nd rfl (Or.inl rfl) pe_int)
      (Evl.pss_cut (ps_if (pt_cmpR op_lt (pv 1) (pe_callB call_len rfl T.len boot_len (pa_cons (pv 0) pa_nil)) (nomark _)) (pss_one (ps_set (i := 2) scSource.nd rfl (Or.inl rfl) (pe_ix ix_list (pv 0) (pv 1) (fun _ _ => rfl)))) pss_nil)
      (pss_cons (ps_set (i := 3) scSource.nd rfl (Or.inl rfl) (pe_callB (call_max2 rfl) rfl T.max boot_max (pa_cons (pv 2) (pa_cons (pe_op op_sub (pe_un un_neg pe_int) (pv 2)) pa_nil))))
      (pss_cons (ps_set (i := 4) scSource.nd rfl (Or.inl rfl) (pe_op op_mod (pe_callTy call_int1 rfl T.int boot_int (pa_cons (pe_op op_add (pe_op op_add (pe_op op_mul (pe_op op_mod (pe_callTy call_int1 rfl T.int boot_int (pa_cons (pv 3) pa_nil)) pe_int) pe_int) (pe_op op_mul pe_int (pv 1))) pe_int) pa_nil)) pe_int))
      (Evl.pss_cut (ps_if (pt_cmpR op_lt (pv 3) (pe_op op_pow pe_int pe_int) (nomark _)) (pss_one (ps_set (i := 3) scSource.nd rfl (Or.inl rfl) pe_int)) pss_nil)
      (pss_one (ps_ret (pe_lst (pa_cons (pv 3) (pa_cons (pv 4) pa_nil)))))))))), ?_⟩
    refine ⟨fun σ' H' => ∃ c : Int, σ' = [some (.ref a), some (.int t), some (.int c), none, none] ∧ H' = H, ?_, ?_⟩
    · refine ⟨_, rfl, _, rfl, _, _, rfl, Or.inl ⟨_, hS, rfl⟩, _, _, rfl, rfl, _, rfl, ?_⟩
      refine ite2 (fun hlt => ?_) (fun _ => ⟨0, rfl, rfl⟩)
      obtain ⟨c, hc⟩ := atI_int h0 (of_decide_eq_true hlt)
      exact ⟨_, rfl, _, rfl, a, _, t, .int c, rfl, rfl, hS, hc, c, rfl, rfl⟩
    · rintro σ' H' ⟨c, rfl, rfl⟩
      refine ⟨_, rfl, _, rfl, _, rfl, _, _, rfl, rfl, _, _, rfl, ?_⟩
      have hN : 0 ≤ (if -1 - c > c then -1 - c else c) := by split <;> omega
      generalize (if -1 - c > c then -1 - c else c) = N at hN
      refine ⟨_, rfl, Or.inl ⟨_, rfl, _, _, rfl, rfl, (by decide : (0 : Int) < 2147483629), _, _, rfl, rfl, Or.inr ⟨by decide, by decide⟩, _, rfl, _, _, rfl, rfl, Or.inl ⟨by decide, by decide⟩, _, _, rfl, rfl, _, _, rfl, rfl, Or.inl ⟨_, rfl, _, _, rfl, rfl, (by decide : (0 : Int) < 2147483647), ?_⟩⟩⟩
      have hS1 : 0 ≤ (N % 2147483629 * 16807 + 104729 * t + 11) % 2147483647 := Int.emod_nonneg _ (by decide)
      have hS2 : (N % 2147483629 * 16807 + 104729 * t + 11) % 2147483647 < 2147483647 := Int.emod_lt_of_pos _ (by decide)
      refine ⟨fun σ' H1 => ∃ M S : Int, 0 ≤ M ∧ 0 ≤ S ∧ S < 2147483647 ∧ σ' = [some (.ref a), some (.int t), some (.int c), some (.int M), some (.int S)] ∧ H1 = H', ?_, ?_⟩
      · refine ⟨_, rfl, _, _, rfl, rfl, ⟨by decide, by decide, by decide⟩, _, _, rfl, rfl, _, rfl, ?_⟩
        exact ite2 (fun _ => ⟨0, _, Int.le_refl _, hS1, hS2, rfl, rfl⟩) (fun _ => ⟨N, _, hN, hS1, hS2, rfl, rfl⟩)
      · rintro σ' H1 ⟨M, S, hM, q1, q2, rfl, rfl⟩
        exact ⟨_, rfl, _, rfl, two_ok, fun p hp => hQ p M S hp hM q1 q2⟩
theorem ok_draw (F : FnP K "_law_draw" sDraw f fd) (T : Txt mg) : FnOk P w K mg base CX0 1 f fd ["_law_source_here", "_law_amount"] spDraw := by
  refine F.ok scDraw (fun vs H Q E h => ?_) (fun cdv A outer s H vs Q E hr h => ?_)
  · obtain ⟨p, N, S, m, rfl, _⟩ := h
    rfl
  · obtain ⟨p, N, S, m, rfl, hp, hN, hS1, hS2, hm1, hm2, hQ⟩ := h
    refine ⟨_, PSs.nox (pss_cons (ps_if (pt_cmpR op_gt (pe_ix ix_list (pv 0) pe_int (fun _ _ => rfl)) pe_int (nomark _))
        (pss_cons (ps_set (i := 2) scDraw.nd rfl (Or.inl rfl) (pe_op op_mod (pe_callTy call_int1 rfl T.int boot_int (pa_cons (pe_ix ix_list (pv 0) pe_int (fun _ _ => rfl)) pa_nil)) (pv 1)))
        (pss_cons (ps_asg (pe_op op_fdivW (pe_ix ix_list (pv 0) pe_int (fun _ _ => rfl)) (pv 1)) (pg_sub (pv 0) pe_int set_list))
        (pss_one (ps_ret (pv 2))))) pss_nil)
      (pss_cons (ps_asg (pe_op op_mod (pe_callTy call_int1 rfl T.int boot_int (pa_cons (pe_op op_add (pe_op op_mul (pe_ix ix_list (pv 0) pe_int (fun _ _ => rfl)) pe_int) pe_int) pa_nil)) pe_int) (pg_sub (pv 0) pe_int set_list))
      (pss_one (ps_ret (pe_op op_mod (pe_callTy call_int1 rfl T.int boot_int (pa_cons (pe_op op_fdiv (pe_op op_mod (pe_callTy call_int1 rfl T.int boot_int (pa_cons (pe_op op_mul (pe_ix ix_list (pv 0) pe_int (fun _ _ => rfl)) (pe_ix ix_list (pv 0) pe_int (fun _ _ => rfl))) pa_nil)) pe_int) pe_int) pa_nil)) (pv 1)))))), ?_⟩
    have hL : SqL K H p [.int N, .int S] := SqL.of hp
    refine ⟨_, rfl, p, _, 0, .int N, rfl, rfl, hL, rfl, _, _, rfl, rfl, _, rfl, ?_⟩
    refine ite2 (fun h0 => ?_) (fun _ => ?_)
    · refine ⟨_, rfl, p, _, 0, .int N, rfl, rfl, hL, rfl, Or.inl ⟨_, rfl, _, rfl, _, _, rfl, rfl, hm1, ?_⟩⟩
      refine ⟨_, rfl, p, _, 0, .int N, rfl, rfl, hL, rfl, _, rfl, _, _, rfl, rfl, ⟨hm1, hm2⟩, _, rfl, p, _, 0, 0, rfl, rfl, hp, rfl, _, rfl, ?_⟩
      exact hQ _ _ _ (Int.emod_nonneg _ (Int.ne_of_gt hm1)) (Int.emod_lt_of_pos _ hm1) (Int.ediv_nonneg hN (Int.le_of_lt hm1)) hS1 hS2
    · have e1 : 0 ≤ (S * 48271 + 11) % 2147483647 := Int.emod_nonneg _ (by decide)
      have e2 : (S * 48271 + 11) % 2147483647 < 2147483647 := Int.emod_lt_of_pos _ (by decide)
      refine ⟨_, rfl, p, _, 1, .int S, rfl, rfl, hL, rfl, _, _, rfl, rfl, Or.inr ⟨by decide, by decide⟩, _, _, rfl, rfl, Or.inl ⟨_, rfl, _, _, rfl, rfl, (by decide : (0 : Int) < 2147483647), ?_⟩⟩
      refine ⟨_, rfl, p, _, 1, 1, rfl, rfl, hp, rfl, ?_⟩
      have hL2 : SqL K (upd H p (.lst [.int N, .int ((S * 48271 + 11) % 2147483647)])) p [.int N, .int ((S * 48271 + 11) % 2147483647)] := SqL.of upd_same
      refine ⟨_, rfl, p, _, 1, .int ((S * 48271 + 11) % 2147483647), rfl, rfl, hL2, rfl, _, rfl, p, _, 1, .int ((S * 48271 + 11) % 2147483647), rfl, rfl, hL2, rfl, _, _, rfl, rfl, Or.inl ⟨by omega, by omega⟩, Or.inl ⟨_, rfl, _, _, rfl, rfl, (by decide : (0 : Int) < 2147483629), _, _, rfl, rfl, ⟨by decide, by decide⟩, Or.inl ⟨_, rfl, _, rfl, _, _, rfl, rfl, hm1, ?_⟩⟩⟩
      exact hQ _ _ _ (Int.emod_nonneg _ (Int.ne_of_gt hm1)) (Int.emod_lt_of_pos _ hm1) hN e1 e2


/-! ### the exceptions -/
def baseA (K : PySem.W.Frag) : Addr := He.ga K "ClassError"
/-- a class whose __init__ takes one thing -/
structure One (P : Program) (w : World) (K : PySem.W.Frag) (mg : Str → Option Value) (base : Heap) (nm fl : Str) : Prop where
  hm : mg nm = some (.ref (He.ga K nm))
  g : EX2.ClsG K (He.ga K nm) (baseA K) (EX2.ini K nm) [fl]
  fn : ∃ fd g', FnOk P w K mg base CX0 1 (EX2.ini K nm) fd [("self" : Str), g'] (EX2.spX (He.ga K nm) 1 fun xs => [(fl, xs.headD .non)]) ∧ Binds K fd [("self" : Str), g'] []
/-- one whose __init__ takes a loader and a word -/
structure Two (P : Program) (w : World) (K : PySem.W.Frag) (mg : Str → Option Value) (base : Heap) (nm : Str) : Prop where
  hm : mg nm = some (.ref (He.ga K nm))
  g : EX2.ClsG K (He.ga K nm) (baseA K) (EX2.ini K nm) ["loader", "word"]
  fn : ∃ fd, FnOk P w K mg base CX0 1 (EX2.ini K nm) fd [("self" : Str), ("loader" : Str), ("word" : Str)] (EX2.spX (He.ga K nm) 2 fun xs => [("word", xs.getD 1 .non), ("loader", xs.getD 0 .non)]) ∧ Binds K fd [("self" : Str), ("loader" : Str), ("word" : Str)] []
/-- the order in which the law makes them -/
def order : List (Str × Str) := [("InvalidName", "given"), ("InvalidMethod", "given"), ("InvalidClass", "given"), ("InvalidTable", "given"), ("NameTaken", "given"), ("UnknownLoader", "given"), ("InvalidValues", "given"), ("InvalidChoices", "given"), ("InvalidLimit", "given"),
  ("InvalidOperand", "given"), ("InvalidJournal", "given"), ("InvalidCommand", "given"), ("UnknownName", "given"), ("NotLoaded", "given"), ("LimitExceeded", "limit"), ("Failing", "failure"), ("ParseError", "line")]
structure Excs (P : Program) (w : World) (K : PySem.W.Frag) (mg : Str → Option Value) (base : Heap) : Prop where
  one : ∀ p ∈ order, One P w K mg base p.1 p.2
  uc : Two P w K mg base "UnknownClass"
  nf : Two P w K mg base "NameFixed"
  nd : ((("ClassError" : Str) :: clsNames).map (He.ga K)).Nodup
  hB : ((PySem.W.clsIn K (baseA K)).isSome && PySem.W.typeIn K (.ref (baseA K)) == some (.type "type")) = true
end
section
variable {X : Cx} {e : Expr} {te : TE} {p pos : Pos}
theorem pe_one {nm fl : Str} (o : One X.prog X.w X.K X.mg X.base nm fl) (hr : Room 2 X.A) (hg : Gl X nm) (he : PE X e te) (hdb : (nm == ("__debug__" : Str)) = false := by decide)
    (hst : starEach [e] X.env = (false, eval e X.env) :: starEach [] X.env := by rfl) : PE X (.Call (.Name nm p) [e] [] pos) (EX2.tMkX (He.ga X.K nm) 1 (fun xs => [(fl, xs.headD .non)]) (tCons te tNil)) := by
  obtain ⟨fd, g', F, b⟩ := o.fn
  exact EX2.pe_mkx o.g.t o.g.at_ o.g.ty F hr b hg o.hm (by decide) (pa_cons he pa_nil hst) hdb hst
theorem pe_two {nm : Str} {e2 : Expr} {te2 : TE} (o : Two X.prog X.w X.K X.mg X.base nm) (hr : Room 2 X.A) (hg : Gl X nm) (he : PE X e te) (he2 : PE X e2 te2) (hdb : (nm == ("__debug__" : Str)) = false := by decide)
    (hst : starEach [e, e2] X.env = (false, eval e X.env) :: starEach [e2] X.env := by rfl) (hst2 : starEach [e2] X.env = (false, eval e2 X.env) :: starEach [] X.env := by rfl) :
    PE X (.Call (.Name nm p) [e, e2] [] pos) (EX2.tMkX (He.ga X.K nm) 2 (fun xs => [("word", xs.getD 1 .non), ("loader", xs.getD 0 .non)]) (tCons te (tCons te2 tNil))) := by
  obtain ⟨fd, F, b⟩ := o.fn
  exact EX2.pe_mkx o.g.t o.g.at_ o.g.ty F hr b hg o.hm (by decide) (pa_cons he (pa_cons he2 pa_nil hst2) hst) hdb hst (by rw [hst2]; rfl)
end

def names19 : List Str := ["InvalidName", "InvalidMethod", "InvalidClass", "InvalidTable", "NameTaken", "UnknownLoader", "InvalidValues", "InvalidChoices", "InvalidLimit", "InvalidOperand", "InvalidJournal", "InvalidCommand", "UnknownName", "NotLoaded", "LimitExceeded", "Failing", "ParseError", "UnknownClass", "NameFixed"]
theorem is_step {K : PySem.W.Frag} {H : Hp} {a C D : Addr} {fs : List (Str × V)} {b : Bool} {Q : VK} (h : EX2.ExAt H a C fs) (hc : ExcC K C) (hk : PySem.W.kitOne K (.ref C) (.ref D) = some b) (q : Q (.bl b) H) : EX2.rIsX K [.ref a, .ref D] H Q :=
  ⟨a, C, fs, .ref D, .ref D, b, rfl, .own D, h, hc, hk, q⟩
theorem cat_step {H H1 : Hp} {p0 : Addr} {xs zs : List V} {Q : VK} (e : Evl.Ex H H1) (hp : H1 p0 = some (.lst xs)) (hl : xs.length + zs.length ≤ 1000) (k : ∀ (H2 : Hp) (p1 : Addr), Evl.Ex H H2 → H2 p1 = some (.lst (xs ++ zs)) → Q (.ref p1) H2) :
    zs.length ≤ sizeLine ∧ ∀ q, H1 q = none → rCat (.ref p0) (.ref q) (upd H1 q (.lst zs)) Q := by
  refine ⟨le_line (by omega), fun q hq => ⟨p0, q, xs, zs, rfl, rfl, ?_, upd_same, le_line hl, fun p1 h1 => ?_⟩⟩
  · rw [upd_ne (ne_of_none hp hq)]
    exact hp
  · have hq1 : q ≠ p1 := fun z => by rw [← z, upd_same] at h1; cases h1
    refine k _ p1 (fun b o hb => ?_) upd_same
    have hb1 := e b o hb
    rw [upd_ne, upd_ne (ne_of_none hb1 hq)]
    · exact hb1
    · rintro rfl
      rw [upd_ne (ne_of_none hb1 hq)] at h1
      rw [hb1] at h1
      cases h1
/-- all classes are known -/
abbrev AllC (K : PySem.W.Frag) (mg : Str → Option Value) : Prop := ∀ nm ∈ names19, mg nm = some (.ref (He.ga K nm)) ∧ ∃ f flds, EX2.ClsG K (He.ga K nm) (baseA K) f flds ∧ He.ga K nm ≠ baseA K
def kinds (K : PySem.W.Frag) (C : Addr) : List V := names19.map fun nm => .bl (decide (C = He.ga K nm))
def spKinds (K : PySem.W.Frag) : Sp := fun vs H Q _ => ∃ (a C : Addr) (fs : List (Str × V)) (f : Addr) (flds : List Str), vs = [.ref a] ∧ EX2.ExAt H a C fs ∧ EX2.ClsG K C (baseA K) f flds ∧ ∀ (H' : Hp) (L : Addr), Evl.Ex H H' → H' L = some (.lst (kinds K C)) → Q (.ref L) H'
abbrev nKinds : List Str := ["_law_error", "_law_found"]
theorem scKinds : FnScope nKinds ["_law_error"] (defScope sKinds) := ⟨rfl, rfl, rfl, by decide +kernel, rfl, by decide +kernel, by decide +kernel⟩
section
variable {P : Program} {w : World} {K : PySem.W.Frag} {mg : Str → Option Value} {base : Heap} {f : Addr} {fd : FuncData}
theorem ok_kinds (F : FnP K "_law_kinds" sKinds f fd) (T : Txt mg) (D : AllC K mg) : FnOk P w K mg base CX0 1 f fd ["_law_error"] (spKinds K) := by
  refine F.ok scKinds (fun vs H Q E h => ?_) (fun cdv A outer s H vs Q E hr h => ?_)
  · obtain ⟨a, C, fs, f, flds, rfl, _⟩ := h
    rfl
  · obtain ⟨a, C, fs, f, flds, rfl, hE, g, hQ⟩ := h
    refine ⟨_, PSs.nox (pss_cons (ps_set (i := 1) scKinds.nd rfl (Or.inl rfl) (pe_lst (pa_cons (pe_callB EX2.call_isX rfl T.isi boot_isi (pa_cons (pv 0) (pa_cons (pe_glob rfl (D _ (List.mem_of_getElem? (i := 0) rfl)).1 (v := .ref (He.ga K "InvalidName")) rfl) pa_nil))) (pa_cons (pe_callB EX2.call_isX rfl T.isi boot_isi (pa_cons (pv 0) (pa_cons (pe_glob rfl (D _ (List.mem_of_getElem? (i := 1) rfl)).1 (v := .ref (He.ga K "InvalidMethod")) rfl) pa_nil))) (pa_cons (pe_callB EX2.call_isX rfl T.isi boot_isi (pa_cons (pv 0) (pa_cons (pe_glob rfl (D _ (List.mem_of_getElem? (i := 2) rfl)).1 (v := .ref (He.ga K "InvalidClass")) rfl) pa_nil))) pa_nil)))))
      (pss_cons (ps_set (i := 1) scKinds.nd rfl (Or.inl rfl) (pe_op op_cat (pv 1) (pe_lst (pa_cons (pe_callB EX2.call_isX rfl T.isi boot_isi (pa_cons (pv 0) (pa_cons (pe_glob rfl (D _ (List.mem_of_getElem? (i := 3) rfl)).1 (v := .ref (He.ga K "InvalidTable")) rfl) pa_nil))) (pa_cons (pe_callB EX2.call_isX rfl T.isi boot_isi (pa_cons (pv 0) (pa_cons (pe_glob rfl (D _ (List.mem_of_getElem? (i := 4) rfl)).1 (v := .ref (He.ga K "NameTaken")) rfl) pa_nil))) (pa_cons (pe_callB EX2.call_isX rfl T.isi boot_isi (pa_cons (pv 0) (pa_cons (pe_glob rfl (D _ (List.mem_of_getElem? (i := 5) rfl)).1 (v := .ref (He.ga K "UnknownLoader")) rfl) pa_nil))) pa_nil))))))
      (pss_cons (ps_set (i := 1) scKinds.nd rfl (Or.inl rfl) (pe_op op_cat (pv 1) (pe_lst (pa_cons (pe_callB EX2.call_isX rfl T.isi boot_isi (pa_cons (pv 0) (pa_cons (pe_glob rfl (D _ (List.mem_of_getElem? (i := 6) rfl)).1 (v := .ref (He.ga K "InvalidValues")) rfl) pa_nil))) (pa_cons (pe_callB EX2.call_isX rfl T.isi boot_isi (pa_cons (pv 0) (pa_cons (pe_glob rfl (D _ (List.mem_of_getElem? (i := 7) rfl)).1 (v := .ref (He.ga K "InvalidChoices")) rfl) pa_nil))) pa_nil)))))
      (pss_cons (ps_set (i := 1) scKinds.nd rfl (Or.inl rfl) (pe_op op_cat (pv 1) (pe_lst (pa_cons (pe_callB EX2.call_isX rfl T.isi boot_isi (pa_cons (pv 0) (pa_cons (pe_glob rfl (D _ (List.mem_of_getElem? (i := 8) rfl)).1 (v := .ref (He.ga K "InvalidLimit")) rfl) pa_nil))) (pa_cons (pe_callB EX2.call_isX rfl T.isi boot_isi (pa_cons (pv 0) (pa_cons (pe_glob rfl (D _ (List.mem_of_getElem? (i := 9) rfl)).1 (v := .ref (He.ga K "InvalidOperand")) rfl) pa_nil))) pa_nil)))))
      (pss_cons (ps_set (i := 1) scKinds.nd rfl (Or.inl rfl) (pe_op op_cat (pv 1) (pe_lst (pa_cons (pe_callB EX2.call_isX rfl T.isi boot_isi (pa_cons (pv 0) (pa_cons (pe_glob rfl (D _ (List.mem_of_getElem? (i := 10) rfl)).1 (v := .ref (He.ga K "InvalidJournal")) rfl) pa_nil))) (pa_cons (pe_callB EX2.call_isX rfl T.isi boot_isi (pa_cons (pv 0) (pa_cons (pe_glob rfl (D _ (List.mem_of_getElem? (i := 11) rfl)).1 (v := .ref (He.ga K "InvalidCommand")) rfl) pa_nil))) pa_nil)))))
      (pss_cons (ps_set (i := 1) scKinds.nd rfl (Or.inl rfl) (pe_op op_cat (pv 1) (pe_lst (pa_cons (pe_callB EX2.call_isX rfl T.isi boot_isi (pa_cons (pv 0) (pa_cons (pe_glob rfl (D _ (List.mem_of_getElem? (i := 12) rfl)).1 (v := .ref (He.ga K "UnknownName")) rfl) pa_nil))) (pa_cons (pe_callB EX2.call_isX rfl T.isi boot_isi (pa_cons (pv 0) (pa_cons (pe_glob rfl (D _ (List.mem_of_getElem? (i := 13) rfl)).1 (v := .ref (He.ga K "NotLoaded")) rfl) pa_nil))) (pa_cons (pe_callB EX2.call_isX rfl T.isi boot_isi (pa_cons (pv 0) (pa_cons (pe_glob rfl (D _ (List.mem_of_getElem? (i := 14) rfl)).1 (v := .ref (He.ga K "LimitExceeded")) rfl) pa_nil))) pa_nil))))))
      (pss_cons (ps_set (i := 1) scKinds.nd rfl (Or.inl rfl) (pe_op op_cat (pv 1) (pe_lst (pa_cons (pe_callB EX2.call_isX rfl T.isi boot_isi (pa_cons (pv 0) (pa_cons (pe_glob rfl (D _ (List.mem_of_getElem? (i := 15) rfl)).1 (v := .ref (He.ga K "Failing")) rfl) pa_nil))) (pa_cons (pe_callB EX2.call_isX rfl T.isi boot_isi (pa_cons (pv 0) (pa_cons (pe_glob rfl (D _ (List.mem_of_getElem? (i := 16) rfl)).1 (v := .ref (He.ga K "ParseError")) rfl) pa_nil))) (pa_cons (pe_callB EX2.call_isX rfl T.isi boot_isi (pa_cons (pv 0) (pa_cons (pe_glob rfl (D _ (List.mem_of_getElem? (i := 17) rfl)).1 (v := .ref (He.ga K "UnknownClass")) rfl) pa_nil))) pa_nil))))))
      (pss_one (ps_ret (pe_op op_cat (pv 1) (pe_lst (pa_cons (pe_callB EX2.call_isX rfl T.isi boot_isi (pa_cons (pv 0) (pa_cons (pe_glob rfl (D _ (List.mem_of_getElem? (i := 18) rfl)).1 (v := .ref (He.ga K "NameFixed")) rfl) pa_nil))) pa_nil)))))))))))), ?_⟩
    have kt : ∀ (i : Nat) {nm : Str}, names19[i]? = some nm → PySem.W.kitOne K (.ref C) (.ref (He.ga K nm)) = some (decide (C = He.ga K nm)) := fun i nm e => by
      obtain ⟨_, f', flds', g', hne⟩ := D nm (List.mem_of_getElem? e)
      exact g.kit g' hne
    have hC := g.c
    have hE0 := hE
    refine ⟨_, rfl, a, C, fs, _, _, _, rfl, .own _, hE0, hC, kt 0 rfl, ⟨_, rfl, a, C, fs, _, _, _, rfl, .own _, hE0, hC, kt 1 rfl, ⟨_, rfl, a, C, fs, _, _, _, rfl, .own _, hE0, hC, kt 2 rfl, ⟨le_line (by simp), fun p1 h1 => ?_⟩⟩⟩⟩
    generalize hH1 : upd H p1 _ = H1
    have e1 : Evl.Ex H H1 := by rw [← hH1]; exact Evl.Ex.new h1
    have q1 := (congrFun hH1 p1).symm.trans upd_same
    have hE1 := hE.ext e1
    refine ⟨_, rfl, ⟨_, rfl, a, C, fs, _, _, _, rfl, .own _, hE1, hC, kt 3 rfl, ⟨_, rfl, a, C, fs, _, _, _, rfl, .own _, hE1, hC, kt 4 rfl, ⟨_, rfl, a, C, fs, _, _, _, rfl, .own _, hE1, hC, kt 5 rfl, ?_⟩⟩⟩⟩
    refine cat_step e1 q1 (by simp) fun H2 p2 e2 q2 => ?_
    have hE2 := hE.ext e2
    refine ⟨_, rfl, ⟨_, rfl, a, C, fs, _, _, _, rfl, .own _, hE2, hC, kt 6 rfl, ⟨_, rfl, a, C, fs, _, _, _, rfl, .own _, hE2, hC, kt 7 rfl, ?_⟩⟩⟩
    refine cat_step e2 q2 (by simp) fun H3 p3 e3 q3 => ?_
    have hE3 := hE.ext e3
    refine ⟨_, rfl, ⟨_, rfl, a, C, fs, _, _, _, rfl, .own _, hE3, hC, kt 8 rfl, ⟨_, rfl, a, C, fs, _, _, _, rfl, .own _, hE3, hC, kt 9 rfl, ?_⟩⟩⟩
    refine cat_step e3 q3 (by simp) fun H4 p4 e4 q4 => ?_
    have hE4 := hE.ext e4
    refine ⟨_, rfl, ⟨_, rfl, a, C, fs, _, _, _, rfl, .own _, hE4, hC, kt 10 rfl, ⟨_, rfl, a, C, fs, _, _, _, rfl, .own _, hE4, hC, kt 11 rfl, ?_⟩⟩⟩
    refine cat_step e4 q4 (by simp) fun H5 p5 e5 q5 => ?_
    have hE5 := hE.ext e5
    refine ⟨_, rfl, ⟨_, rfl, a, C, fs, _, _, _, rfl, .own _, hE5, hC, kt 12 rfl, ⟨_, rfl, a, C, fs, _, _, _, rfl, .own _, hE5, hC, kt 13 rfl, ⟨_, rfl, a, C, fs, _, _, _, rfl, .own _, hE5, hC, kt 14 rfl, ?_⟩⟩⟩⟩
    refine cat_step e5 q5 (by simp) fun H6 p6 e6 q6 => ?_
    have hE6 := hE.ext e6
    refine ⟨_, rfl, ⟨_, rfl, a, C, fs, _, _, _, rfl, .own _, hE6, hC, kt 15 rfl, ⟨_, rfl, a, C, fs, _, _, _, rfl, .own _, hE6, hC, kt 16 rfl, ⟨_, rfl, a, C, fs, _, _, _, rfl, .own _, hE6, hC, kt 17 rfl, ?_⟩⟩⟩⟩
    refine cat_step e6 q6 (by simp) fun H7 p7 e7 q7 => ?_
    have hE7 := hE.ext e7
    refine ⟨_, rfl, ⟨_, rfl, a, C, fs, _, _, _, rfl, .own _, hE7, hC, kt 18 rfl, ?_⟩⟩
    refine cat_step e7 q7 (by simp) fun H8 p8 e8 q8 => ?_
    exact hQ H8 p8 e8 q8
end
end K30
set_option Elab.async false
set_option linter.all false
set_option maxRecDepth 100000
set_option maxHeartbeats 0
namespace K30
open PySem PySem.Spec PyProof.Rows L2
def made (x : V) : List (Str × List (Str × V)) := order.map (fun p => (p.1, [(p.2, x)])) ++ ([(("UnknownClass" : Str), [(("word" : Str), V.int 1), (("loader" : Str), x)]), (("NameFixed" : Str), [(("word" : Str), x), (("loader" : Str), V.int 2)])] : List (Str × List (Str × V)))
/-- the exceptions at es are made so -/
abbrev MadeAt (K : PySem.W.Frag) (H : Hp) : List Addr → List (Str × List (Str × V)) → Prop := Paired fun e m => EX2.ExAt H e (He.ga K m.1) m.2
theorem MadeAt.ext {K : PySem.W.Frag} {H H' : Hp} (e : Evl.Ex H H') : ∀ {es : List Addr} {ms : List (Str × List (Str × V))}, MadeAt K H es ms → MadeAt K H' es ms
  | _, _, .nil => .nil
  | _, _, .cons h t => .cons (h.ext e) (MadeAt.ext e t)
theorem MadeAt.snoc {K : PySem.W.Frag} {H : Hp} {a : Addr} {m : Str × List (Str × V)} (h : EX2.ExAt H a (He.ga K m.1) m.2) : ∀ {es : List Addr} {ms : List (Str × List (Str × V))}, MadeAt K H es ms → MadeAt K H (es ++ [a]) (ms ++ [m])
  | _, _, .nil => .cons h .nil
  | _, _, .cons x t => .cons x (MadeAt.snoc h t)
def spAll (K : PySem.W.Frag) : Sp := fun vs H Q _ => ∃ x : V, vs = [x] ∧ ∀ (H' : Hp) (L : Addr) (es : List Addr), Evl.Ex H H' → H' L = some (.lst (es.map V.ref)) → MadeAt K H' es (made x) → Q (.ref L) H'
abbrev nAll : List Str := ["_law_item", "_law_found"]
theorem scAll : FnScope nAll ["_law_item"] (defScope sAll) := ⟨rfl, rfl, rfl, by decide +kernel, rfl, by decide +kernel, by decide +kernel⟩
section
variable {P : Program} {w : World} {K : PySem.W.Frag} {mg : Str → Option Value} {base : Heap} {f : Addr} {fd : FuncData}
theorem ok_all (F : FnP K "_law_all" sAll f fd) (X : Excs P w K mg base) : FnOk P w K mg base CX0 3 f fd ["_law_item"] (spAll K) := by
  refine F.ok scAll (fun vs H Q E h => ?_) (fun cdv A outer s H vs Q E hr h => ?_)
  · obtain ⟨x, rfl, _⟩ := h
    rfl
  · obtain ⟨x, rfl, hQ⟩ := h
    refine ⟨_, PSs.nox (pss_cons (ps_set (i := 1) scAll.nd rfl (Or.inl rfl) (pe_lst (pa_cons (pe_one (X.one _ (List.mem_of_getElem? (i := 0) rfl)) hr rfl (pv 0)) (pa_cons (pe_one (X.one _ (List.mem_of_getElem? (i := 1) rfl)) hr rfl (pv 0)) (pa_cons (pe_one (X.one _ (List.mem_of_getElem? (i := 2) rfl)) hr rfl (pv 0)) (pa_cons (pe_one (X.one _ (List.mem_of_getElem? (i := 3) rfl)) hr rfl (pv 0)) (pa_cons (pe_one (X.one _ (List.mem_of_getElem? (i := 4) rfl)) hr rfl (pv 0)) pa_nil)))))))
      (pss_cons (ps_set (i := 1) scAll.nd rfl (Or.inl rfl) (pe_op op_cat (pv 1) (pe_lst (pa_cons (pe_one (X.one _ (List.mem_of_getElem? (i := 5) rfl)) hr rfl (pv 0)) (pa_cons (pe_one (X.one _ (List.mem_of_getElem? (i := 6) rfl)) hr rfl (pv 0)) (pa_cons (pe_one (X.one _ (List.mem_of_getElem? (i := 7) rfl)) hr rfl (pv 0)) (pa_cons (pe_one (X.one _ (List.mem_of_getElem? (i := 8) rfl)) hr rfl (pv 0)) pa_nil)))))))
      (pss_cons (ps_set (i := 1) scAll.nd rfl (Or.inl rfl) (pe_op op_cat (pv 1) (pe_lst (pa_cons (pe_one (X.one _ (List.mem_of_getElem? (i := 9) rfl)) hr rfl (pv 0)) (pa_cons (pe_one (X.one _ (List.mem_of_getElem? (i := 10) rfl)) hr rfl (pv 0)) (pa_cons (pe_one (X.one _ (List.mem_of_getElem? (i := 11) rfl)) hr rfl (pv 0)) pa_nil))))))
      (pss_cons (ps_set (i := 1) scAll.nd rfl (Or.inl rfl) (pe_op op_cat (pv 1) (pe_lst (pa_cons (pe_one (X.one _ (List.mem_of_getElem? (i := 12) rfl)) hr rfl (pv 0)) (pa_cons (pe_one (X.one _ (List.mem_of_getElem? (i := 13) rfl)) hr rfl (pv 0)) pa_nil)))))
      (pss_one (ps_ret (pe_op op_cat (pv 1) (pe_lst (pa_cons (pe_one (X.one _ (List.mem_of_getElem? (i := 14) rfl)) hr rfl (pv 0)) (pa_cons (pe_one (X.one _ (List.mem_of_getElem? (i := 15) rfl)) hr rfl (pv 0)) (pa_cons (pe_one (X.one _ (List.mem_of_getElem? (i := 16) rfl)) hr rfl (pv 0)) (pa_cons (pe_two X.uc hr rfl (pv 0) pe_int) (pa_cons (pe_two X.nf hr rfl pe_int (pv 0)) pa_nil))))))))))))), ?_⟩
    have z0 : MadeAt K H [] [] := .nil
    refine ⟨_, rfl, rfl, fun a0 d0 G0 n0 m0 ne0 e0 g0 h0 => ?_⟩
    have z1 := (z0.ext e0).snoc (m := ((("InvalidName" : Str), [(("given" : Str), x)]))) ⟨d0, g0, h0⟩
    have E0 : Evl.Ex H G0 := (Evl.Ex.refl H).trans e0
    refine ⟨_, rfl, rfl, fun a1 d1 G1 n1 m1 ne1 e1 g1 h1 => ?_⟩
    have z2 := (z1.ext e1).snoc (m := ((("InvalidMethod" : Str), [(("given" : Str), x)]))) ⟨d1, g1, h1⟩
    have E1 : Evl.Ex H G1 := E0.trans e1
    refine ⟨_, rfl, rfl, fun a2 d2 G2 n2 m2 ne2 e2 g2 h2 => ?_⟩
    have z3 := (z2.ext e2).snoc (m := ((("InvalidClass" : Str), [(("given" : Str), x)]))) ⟨d2, g2, h2⟩
    have E2 : Evl.Ex H G2 := E1.trans e2
    refine ⟨_, rfl, rfl, fun a3 d3 G3 n3 m3 ne3 e3 g3 h3 => ?_⟩
    have z4 := (z3.ext e3).snoc (m := ((("InvalidTable" : Str), [(("given" : Str), x)]))) ⟨d3, g3, h3⟩
    have E3 : Evl.Ex H G3 := E2.trans e3
    refine ⟨_, rfl, rfl, fun a4 d4 G4 n4 m4 ne4 e4 g4 h4 => ?_⟩
    have z5 := (z4.ext e4).snoc (m := ((("NameTaken" : Str), [(("given" : Str), x)]))) ⟨d4, g4, h4⟩
    have E4 : Evl.Ex H G4 := E3.trans e4
    refine ⟨le_line (by simp), fun p hp => ?_⟩
    generalize hG : upd G4 p _ = G5
    have f0 : Evl.Ex G4 G5 := by rw [← hG]; exact Evl.Ex.new hp
    have q := (congrFun hG p).symm.trans upd_same
    replace z5 := z5.ext f0
    have E5 : Evl.Ex H G5 := E4.trans f0
    refine ⟨_, rfl, ?_⟩
    refine ⟨_, rfl, rfl, fun a5 d5 G6 n5 m5 ne5 e5 g5 h5 => ?_⟩
    have z6 := (z5.ext e5).snoc (m := ((("UnknownLoader" : Str), [(("given" : Str), x)]))) ⟨d5, g5, h5⟩
    have E6 : Evl.Ex H G6 := E5.trans e5
    replace q := e5 _ _ q
    refine ⟨_, rfl, rfl, fun a6 d6 G7 n6 m6 ne6 e6 g6 h6 => ?_⟩
    have z7 := (z6.ext e6).snoc (m := ((("InvalidValues" : Str), [(("given" : Str), x)]))) ⟨d6, g6, h6⟩
    have E7 : Evl.Ex H G7 := E6.trans e6
    replace q := e6 _ _ q
    refine ⟨_, rfl, rfl, fun a7 d7 G8 n7 m7 ne7 e7 g7 h7 => ?_⟩
    have z8 := (z7.ext e7).snoc (m := ((("InvalidChoices" : Str), [(("given" : Str), x)]))) ⟨d7, g7, h7⟩
    have E8 : Evl.Ex H G8 := E7.trans e7
    replace q := e7 _ _ q
    refine ⟨_, rfl, rfl, fun a8 d8 G9 n8 m8 ne8 e8 g8 h8 => ?_⟩
    have z9 := (z8.ext e8).snoc (m := ((("InvalidLimit" : Str), [(("given" : Str), x)]))) ⟨d8, g8, h8⟩
    have E9 : Evl.Ex H G9 := E8.trans e8
    replace q := e8 _ _ q
    refine cat_step (Evl.Ex.refl G9) q (by simp) fun G10 p1 f1 q1 => ?_
    replace z9 := z9.ext f1
    have E10 : Evl.Ex H G10 := E9.trans f1
    have q := q1
    refine ⟨_, rfl, ?_⟩
    refine ⟨_, rfl, rfl, fun a9 d9 G11 n9 m9 ne9 e9 g9 h9 => ?_⟩
    have z10 := (z9.ext e9).snoc (m := ((("InvalidOperand" : Str), [(("given" : Str), x)]))) ⟨d9, g9, h9⟩
    have E11 : Evl.Ex H G11 := E10.trans e9
    replace q := e9 _ _ q
    refine ⟨_, rfl, rfl, fun a10 d10 G12 n10 m10 ne10 e10 g10 h10 => ?_⟩
    have z11 := (z10.ext e10).snoc (m := ((("InvalidJournal" : Str), [(("given" : Str), x)]))) ⟨d10, g10, h10⟩
    have E12 : Evl.Ex H G12 := E11.trans e10
    replace q := e10 _ _ q
    refine ⟨_, rfl, rfl, fun a11 d11 G13 n11 m11 ne11 e11 g11 h11 => ?_⟩
    have z12 := (z11.ext e11).snoc (m := ((("InvalidCommand" : Str), [(("given" : Str), x)]))) ⟨d11, g11, h11⟩
    have E13 : Evl.Ex H G13 := E12.trans e11
    replace q := e11 _ _ q
    refine cat_step (Evl.Ex.refl G13) q (by simp) fun G14 p2 f2 q2 => ?_
    replace z12 := z12.ext f2
    have E14 : Evl.Ex H G14 := E13.trans f2
    have q := q2
    refine ⟨_, rfl, ?_⟩
    refine ⟨_, rfl, rfl, fun a12 d12 G15 n12 m12 ne12 e12 g12 h12 => ?_⟩
    have z13 := (z12.ext e12).snoc (m := ((("UnknownName" : Str), [(("given" : Str), x)]))) ⟨d12, g12, h12⟩
    have E15 : Evl.Ex H G15 := E14.trans e12
    replace q := e12 _ _ q
    refine ⟨_, rfl, rfl, fun a13 d13 G16 n13 m13 ne13 e13 g13 h13 => ?_⟩
    have z14 := (z13.ext e13).snoc (m := ((("NotLoaded" : Str), [(("given" : Str), x)]))) ⟨d13, g13, h13⟩
    have E16 : Evl.Ex H G16 := E15.trans e13
    replace q := e13 _ _ q
    refine cat_step (Evl.Ex.refl G16) q (by simp) fun G17 p3 f3 q3 => ?_
    replace z14 := z14.ext f3
    have E17 : Evl.Ex H G17 := E16.trans f3
    have q := q3
    refine ⟨_, rfl, ?_⟩
    refine ⟨_, rfl, rfl, fun a14 d14 G18 n14 m14 ne14 e14 g14 h14 => ?_⟩
    have z15 := (z14.ext e14).snoc (m := ((("LimitExceeded" : Str), [(("limit" : Str), x)]))) ⟨d14, g14, h14⟩
    have E18 : Evl.Ex H G18 := E17.trans e14
    replace q := e14 _ _ q
    refine ⟨_, rfl, rfl, fun a15 d15 G19 n15 m15 ne15 e15 g15 h15 => ?_⟩
    have z16 := (z15.ext e15).snoc (m := ((("Failing" : Str), [(("failure" : Str), x)]))) ⟨d15, g15, h15⟩
    have E19 : Evl.Ex H G19 := E18.trans e15
    replace q := e15 _ _ q
    refine ⟨_, rfl, rfl, fun a16 d16 G20 n16 m16 ne16 e16 g16 h16 => ?_⟩
    have z17 := (z16.ext e16).snoc (m := ((("ParseError" : Str), [(("line" : Str), x)]))) ⟨d16, g16, h16⟩
    have E20 : Evl.Ex H G20 := E19.trans e16
    replace q := e16 _ _ q
    refine ⟨_, rfl, rfl, fun a17 d17 G21 n17 m17 ne17 e17 g17 h17 => ?_⟩
    have z18 := (z17.ext e17).snoc (m := ((("UnknownClass" : Str), [(("word" : Str), V.int 1), (("loader" : Str), x)]))) ⟨d17, g17, h17⟩
    have E21 : Evl.Ex H G21 := E20.trans e17
    replace q := e17 _ _ q
    refine ⟨_, rfl, rfl, fun a18 d18 G22 n18 m18 ne18 e18 g18 h18 => ?_⟩
    have z19 := (z18.ext e18).snoc (m := ((("NameFixed" : Str), [(("word" : Str), x), (("loader" : Str), V.int 2)]))) ⟨d18, g18, h18⟩
    have E22 : Evl.Ex H G22 := E21.trans e18
    replace q := e18 _ _ q
    refine cat_step (Evl.Ex.refl G22) q (by simp) fun G23 p4 f4 q4 => ?_
    replace z19 := z19.ext f4
    have E23 : Evl.Ex H G23 := E22.trans f4
    have q := q4
    exact hQ G23 _ [a0, a1, a2, a3, a4, a5, a6, a7, a8, a9, a10, a11, a12, a13, a14, a15, a16, a17, a18] E23 q z19
end
end K30
set_option Elab.async false
set_option linter.all false
set_option maxRecDepth 100000
set_option maxHeartbeats 0
namespace K30
open PySem PySem.Spec PyProof.Rows L2
def fieldAt (i : Int) : Str := if i < 14 then "given" else if i = 14 then "limit" else if i = 15 then "failure" else if i = 16 then "line" else if i = 17 then "loader" else "word"
def spHeld (K : PySem.W.Frag) : Sp := fun vs H Q _ => ∃ (i : Int) (a C : Addr) (fs : List (Str × V)) (v : V), vs = [.int i, .ref a] ∧ EX2.ExAt H a C fs ∧ XfC K C ∧ PySem.W.findIn K (.ref C) (fieldAt i) = some none ∧ fs.lookup (fieldAt i) = some v ∧ Q v H
abbrev nHeld : List Str := ["_law_at", "_law_error"]
theorem scHeld : FnScope nHeld ["_law_at", "_law_error"] (defScope sHeld) := ⟨rfl, rfl, rfl, by decide +kernel, rfl, by decide +kernel, by decide +kernel⟩
section
variable {P : Program} {w : World} {K : PySem.W.Frag} {mg : Str → Option Value} {base : Heap} {f : Addr} {fd : FuncData}
theorem int_eqd (i j : Int) : decide (V.int i = V.int j) = decide (i = j) := decide_eq_decide.mpr ⟨fun h => V.int.inj h, fun h => congrArg V.int h⟩
theorem ok_held (F : FnP K "_law_held" sHeld f fd) : FnOk P w K mg base CX0 1 f fd ["_law_at", "_law_error"] (spHeld K) := by
  refine F.ok scHeld (fun vs H Q E h => ?_) (fun cdv A outer s H vs Q E hr h => ?_)
  · obtain ⟨i, a, C, fs, v, rfl, _⟩ := h
    rfl
  · obtain ⟨i, a, C, fs, v, rfl, ⟨dx, h1, h2⟩, hx, hno, hl, hQ⟩ := h
    refine ⟨_, PSs.nox (pss_cons (ps_if (pt_cmpR op_lt (pv 0) pe_int (nomark _)) (pss_one (ps_ret (EX2.pe_xg (pv 1)))) pss_nil)
      (pss_cons (ps_if (pt_cmpR op_eq (pv 0) pe_int (nomark _)) (pss_one (ps_ret (EX2.pe_xg (pv 1)))) pss_nil)
      (pss_cons (ps_if (pt_cmpR op_eq (pv 0) pe_int (nomark _)) (pss_one (ps_ret (EX2.pe_xg (pv 1)))) pss_nil)
      (pss_cons (ps_if (pt_cmpR op_eq (pv 0) pe_int (nomark _)) (pss_one (ps_ret (EX2.pe_xg (pv 1)))) pss_nil)
      (pss_one (ps_ret (pe_ifExp (pt_cmpR op_eq (pv 0) pe_int (nomark _)) (EX2.pe_xg (pv 1)) (EX2.pe_xg (pv 1))))))))), ?_⟩
    refine ⟨_, rfl, _, _, rfl, rfl, _, rfl, ?_⟩
    unfold fieldAt at hno hl
    refine ite2 (fun h => ?_) (fun h => ?_)
    · rw [if_pos (of_decide_eq_true h)] at hno hl
      exact ⟨_, rfl, a, C, dx, fs, v, rfl, hx, hno, h1, h2, hl, hQ⟩
    rw [if_neg (fun z => h (decide_eq_true z))] at hno hl
    refine ⟨_, rfl, rfl, _, rfl, ?_⟩
    refine ite2 (fun h => ?_) (fun h => ?_)
    · rw [int_eqd] at h
      rw [if_pos (of_decide_eq_true h)] at hno hl
      exact ⟨_, rfl, a, C, dx, fs, v, rfl, hx, hno, h1, h2, hl, hQ⟩
    rw [int_eqd] at h
    rw [if_neg (fun z => h (decide_eq_true z))] at hno hl
    refine ⟨_, rfl, rfl, _, rfl, ?_⟩
    refine ite2 (fun h => ?_) (fun h => ?_)
    · rw [int_eqd] at h
      rw [if_pos (of_decide_eq_true h)] at hno hl
      exact ⟨_, rfl, a, C, dx, fs, v, rfl, hx, hno, h1, h2, hl, hQ⟩
    rw [int_eqd] at h
    rw [if_neg (fun z => h (decide_eq_true z))] at hno hl
    refine ⟨_, rfl, rfl, _, rfl, ?_⟩
    refine ite2 (fun h => ?_) (fun h => ?_)
    · rw [int_eqd] at h
      rw [if_pos (of_decide_eq_true h)] at hno hl
      exact ⟨_, rfl, a, C, dx, fs, v, rfl, hx, hno, h1, h2, hl, hQ⟩
    rw [int_eqd] at h
    rw [if_neg (fun z => h (decide_eq_true z))] at hno hl
    refine ⟨_, rfl, rfl, _, rfl, ?_⟩
    refine ite2 (fun h => ?_) (fun h => ?_)
    · rw [int_eqd] at h
      rw [if_pos (of_decide_eq_true h)] at hno hl
      exact ⟨_, rfl, a, C, dx, fs, v, rfl, hx, hno, h1, h2, hl, hQ⟩
    rw [int_eqd] at h
    rw [if_neg (fun z => h (decide_eq_true z))] at hno hl
    exact ⟨_, rfl, a, C, dx, fs, v, rfl, hx, hno, h1, h2, hl, hQ⟩
/-! ### repr of the fields twice -/
/-- an item as data: small enough to be shown -/
structure Shows (H : Hp) (x : V) (d : PyData) : Prop where
  q : EX2.Dq H x d
  s : d.showable = true
  z : d.shown.length ≤ 2000
  p : d.depth ≤ 3
theorem Shows.ext {H H' : Hp} {x : V} {d : PyData} (h : Shows H x d) (e : Evl.Ex H H') : Shows H' x d := ⟨h.q.ext e, h.s, h.z, h.p⟩
def spOthers : Sp := fun vs H Q _ => ∃ (x : V) (d : PyData), vs = [x] ∧ Shows H x d ∧ ∀ H', Evl.Ex H H' → Q (.bl true) H'
abbrev nOthers : List Str := ["_law_item", "_law_one", "_law_other"]
theorem scOthers : FnScope nOthers ["_law_item"] (defScope sOthers) := ⟨rfl, rfl, rfl, by decide +kernel, rfl, by decide +kernel, by decide +kernel⟩
def four (d : PyData) : PyData := .list [.int 3, d, d, .int 4]
theorem join4 (a b c d : Str) : (listText [a, b, c, d]).length = a.length + b.length + c.length + d.length + 8 := by
  have e : listText [a, b, c, d] = (((((((("[" : Str) ++ ("" : Str) ++ a) ++ (", " : Str) ++ b) ++ (", " : Str) ++ c) ++ (", " : Str) ++ d) ++ ("]" : Str)))) := rfl
  rw [e]
  simp only [strLen_append]
  have h1 : (("[" : Str)).length = 1 := by decide +kernel
  have h2 : (("" : Str)).length = 0 := by decide +kernel
  have h3 : ((", " : Str)).length = 2 := by decide +kernel
  have h4 : (("]" : Str)).length = 1 := by decide +kernel
  omega
theorem four_shows {d : PyData} (hs : d.showable = true) (hz : d.shown.length ≤ 2000) (hp : d.depth ≤ 3) : (four d).showable = true ∧ (four d).shown.length ≤ sizeLine ∧ (four d).depth ≤ 60 := by
  refine ⟨?_, ?_, ?_⟩
  · unfold four
    simp only [PyData.showable, PyData.showableAll, hs, Bool.and_true, Bool.true_and]
    decide +kernel
  · unfold four
    simp only [PyData.shown, PyData.shownAll]
    rw [join4]
    have h1 : (Str.ofString (toString (3 : Int))).length = 1 := by decide +kernel
    have h2 : (Str.ofString (toString (4 : Int))).length = 1 := by decide +kernel
    rw [sizeLine_eq]
    omega
  · unfold four
    simp only [PyData.depth, PyData.depthAll]
    omega
theorem ok_others (F : FnP K "_law_others_right" sOthers f fd) (T : Txt mg) (X : Excs P w K mg base) (sd : EX2.SysD base) : EX2.FnOkG P w K mg base 3 f fd ["_law_item"] spOthers := by
  refine EX2.okG F scOthers (fun vs H Q E h => ?_) (fun cdv A outer s H vs Q E hg hr h => ?_)
  · obtain ⟨x, d, rfl, _⟩ := h
    rfl
  · obtain ⟨x, d, rfl, hS, hQ⟩ := h
    have hG : (A.deeper (envOfC "_law_others_right" (defScope sOthers) s.heap.objs.size f cdv)).guards = some [] := by rw [EX2.guards_deeper]; exact hg
    have hu : (A.deeper (envOfC "_law_others_right" (defScope sOthers) s.heap.objs.size f cdv)).units + 65 < cLine := by have := hr.un; omega
    refine ⟨_, PSs.nox (pss_cons (ps_par (i := 1) (j := 2) rfl scOthers.nd rfl rfl (by decide) rfl rfl (pa_cons (pe_two X.uc hr rfl pe_int (pv 0)) (pa_cons (pe_two X.nf hr rfl (pv 0) pe_int) pa_nil)) (by rfl))
      (pss_one (ps_ret (pe_cmpR op_eq
        (pe_callB (EX2.call_reprD hG hu sd) rfl T.rep boot_rep (pa_cons (pe_lst (pa_cons (EX2.pe_xg (pv 1)) (pa_cons (EX2.pe_xg (pv 1)) (pa_cons (EX2.pe_xg (pv 2)) (pa_cons (EX2.pe_xg (pv 2)) pa_nil))))) pa_nil))
        (pe_callB (EX2.call_reprD hG hu sd) rfl T.rep boot_rep (pa_cons (pe_lst (pa_cons pe_int (pa_cons (pv 0) (pa_cons (pv 0) (pa_cons pe_int pa_nil))))) pa_nil)) (nomark _))))), ?_⟩
    refine ⟨_, rfl, rfl, fun a1 d1 H1 n1 m1 ne1 e1 g1 h1 => ?_⟩
    refine ⟨_, rfl, rfl, fun a2 d2 H2 n2 m2 ne2 e2 g2 h2 => ?_⟩
    refine ⟨_, _, rfl, ?_⟩
    have x1 : EX2.ExAt H2 a1 (He.ga K "UnknownClass") [(("word" : Str), x), (("loader" : Str), V.int 3)] := EX2.ExAt.ext ⟨d1, g1, h1⟩ e2
    have x2 : EX2.ExAt H2 a2 (He.ga K "NameFixed") [(("word" : Str), V.int 4), (("loader" : Str), x)] := ⟨d2, g2, h2⟩
    obtain ⟨b1, y1, y2⟩ := x1
    obtain ⟨b2, y3, y4⟩ := x2
    have S2 := hS.ext (e1.trans e2)
    obtain ⟨k1, k2, k3⟩ := four_shows hS.s hS.z hS.p
    refine ⟨_, rfl, a1, _, b1, _, _, rfl, X.uc.g.x, X.uc.g.no _ (by simp), y1, y2, rfl, ?_⟩
    refine ⟨_, rfl, a1, _, b1, _, _, rfl, X.uc.g.x, X.uc.g.no _ (by simp), y1, y2, rfl, ?_⟩
    refine ⟨_, rfl, a2, _, b2, _, _, rfl, X.nf.g.x, X.nf.g.no _ (by simp), y3, y4, rfl, ?_⟩
    refine ⟨_, rfl, a2, _, b2, _, _, rfl, X.nf.g.x, X.nf.g.no _ (by simp), y3, y4, rfl, ?_⟩
    refine ⟨le_line (by simp), fun p hp => ?_⟩
    have f1 : Evl.Ex H2 (upd H2 p (.lst [V.int 3, x, x, V.int 4])) := Evl.Ex.new hp
    have D1 := (S2.ext f1).q
    refine ⟨_, four d, rfl, .lst upd_same (.cons (.int 3) (.cons D1 (.cons D1 (.cons (.int 4) .nil)))), k1, k2, k3, ?_⟩
    refine ⟨_, rfl, _, rfl, le_line (by simp), fun r hr' => ?_⟩
    have f2 := f1.trans (Evl.Ex.new (o := .lst [V.int 3, x, x, V.int 4]) hr')
    have D2 := (S2.ext f2).q
    refine ⟨_, four d, rfl, .lst upd_same (.cons (.int 3) (.cons D2 (.cons D2 (.cons (.int 4) .nil)))), k1, k2, k3, ?_⟩
    refine ⟨rfl, ?_⟩
    have q := hQ _ ((e1.trans e2).trans f2)
    rw [show decide (V.str (four d).shown = V.str (four d).shown) = true from decide_eq_true rfl]
    exact q
end
end K30
set_option Elab.async false
set_option linter.all false
set_option maxRecDepth 100000
set_option maxHeartbeats 0
namespace K30
open PySem PySem.Spec PyProof.Rows L2
/-! ### plain facts -/
theorem MadeAt.get {K : PySem.W.Frag} {H : Hp} : ∀ {es : List Addr} {ms : List (Str × List (Str × V))} {k : Nat} {m : Str × List (Str × V)}, MadeAt K H es ms → ms[k]? = some m → ∃ e, es[k]? = some e ∧ EX2.ExAt H e (He.ga K m.1) m.2
  | _, _, _, _, .nil, e => by simp at e
  | _, _, 0, _, .cons h _, e => by
    simp at e
    subst e
    exact ⟨_, rfl, h⟩
  | _, _, k + 1, m, .cons _ t, e => by
    obtain ⟨e', h1, h2⟩ := MadeAt.get (k := k) (m := m) t (by simpa using e)
    exact ⟨e', by simpa using h1, h2⟩
theorem MadeAt.len {K : PySem.W.Frag} {H : Hp} {es : List Addr} {ms : List (Str × List (Str × V))} (h : MadeAt K H es ms) : es.length = ms.length := Paired.length h
theorem made_len (x : V) : (made x).length = 19 := rfl
section
variable {P : Program} {w : World} {K : PySem.W.Frag} {mg : Str → Option Value} {base : Heap}
theorem names_sub : ∀ nm ∈ names19, nm ∈ clsNames := by decide +kernel
theorem names_nd : names19.Nodup := by decide +kernel
theorem inj_map {α β : Type} {g : α → β} : ∀ {l : List α}, (l.map g).Nodup → ∀ x ∈ l, ∀ y ∈ l, g x = g y → x = y
  | [], _, _, h, _, _, _ => by cases h
  | a :: l, nd, x, hx', y, hy, e => by
    obtain ⟨h1, h2⟩ := List.nodup_cons.mp (show (g a :: l.map g).Nodup from nd)
    rcases List.mem_cons.mp hx' with rfl | hx
    · rcases List.mem_cons.mp hy with rfl | hy
      · rfl
      · exact absurd (by rw [e]; exact List.mem_map_of_mem hy) h1
    · rcases List.mem_cons.mp hy with hy' | hy'
      · exact absurd (show g a ∈ l.map g by rw [← hy', ← e]; exact List.mem_map_of_mem hx) h1
      · exact inj_map h2 x hx y hy' e
theorem ga_inj (X : Excs P w K mg base) {x y : Str} (hx : x ∈ clsNames) (hy : y ∈ clsNames) (e : He.ga K x = He.ga K y) : x = y := by
  have nd : (clsNames.map (He.ga K)).Nodup := (List.nodup_cons.mp (by simpa using X.nd)).2
  exact inj_map nd x hx y hy e
theorem ga_base (X : Excs P w K mg base) {x : Str} (hx : x ∈ clsNames) : He.ga K x ≠ baseA K := fun e => by
  have h := (List.nodup_cons.mp (show (He.ga K "ClassError" :: clsNames.map (He.ga K)).Nodup from X.nd)).1
  exact h (by rw [show He.ga K "ClassError" = He.ga K x from e.symm]; exact List.mem_map_of_mem hx)
theorem at_k (X : Excs P w K mg base) (x : V) (k : Nat) (hk : k < 19) : ∃ (nm : Str) (fs : List (Str × V)) (f : Addr) (flds : List Str), (made x)[k]? = some (nm, fs) ∧ names19[k]? = some nm ∧ fs.lookup (fieldAt k) = some x ∧ mg nm = some (.ref (He.ga K nm)) ∧ EX2.ClsG K (He.ga K nm) (baseA K) f flds ∧ PySem.W.findIn K (.ref (He.ga K nm)) (fieldAt k) = some none := by
  have one : ∀ (i : Nat) (p : Str × Str), order[i]? = some p → One P w K mg base p.1 p.2 := fun i p e => X.one p (List.mem_of_getElem? e)
  match k, hk with
  | 0, _ => exact ⟨_, _, _, _, rfl, rfl, rfl, (one 0 _ rfl).hm, (one 0 _ rfl).g, (one 0 _ rfl).g.no _ (List.mem_singleton.mpr rfl)⟩
  | 1, _ => exact ⟨_, _, _, _, rfl, rfl, rfl, (one 1 _ rfl).hm, (one 1 _ rfl).g, (one 1 _ rfl).g.no _ (List.mem_singleton.mpr rfl)⟩
  | 2, _ => exact ⟨_, _, _, _, rfl, rfl, rfl, (one 2 _ rfl).hm, (one 2 _ rfl).g, (one 2 _ rfl).g.no _ (List.mem_singleton.mpr rfl)⟩
  | 3, _ => exact ⟨_, _, _, _, rfl, rfl, rfl, (one 3 _ rfl).hm, (one 3 _ rfl).g, (one 3 _ rfl).g.no _ (List.mem_singleton.mpr rfl)⟩
  | 4, _ => exact ⟨_, _, _, _, rfl, rfl, rfl, (one 4 _ rfl).hm, (one 4 _ rfl).g, (one 4 _ rfl).g.no _ (List.mem_singleton.mpr rfl)⟩
  | 5, _ => exact ⟨_, _, _, _, rfl, rfl, rfl, (one 5 _ rfl).hm, (one 5 _ rfl).g, (one 5 _ rfl).g.no _ (List.mem_singleton.mpr rfl)⟩
  | 6, _ => exact ⟨_, _, _, _, rfl, rfl, rfl, (one 6 _ rfl).hm, (one 6 _ rfl).g, (one 6 _ rfl).g.no _ (List.mem_singleton.mpr rfl)⟩
  | 7, _ => exact ⟨_, _, _, _, rfl, rfl, rfl, (one 7 _ rfl).hm, (one 7 _ rfl).g, (one 7 _ rfl).g.no _ (List.mem_singleton.mpr rfl)⟩
  | 8, _ => exact ⟨_, _, _, _, rfl, rfl, rfl, (one 8 _ rfl).hm, (one 8 _ rfl).g, (one 8 _ rfl).g.no _ (List.mem_singleton.mpr rfl)⟩
  | 9, _ => exact ⟨_, _, _, _, rfl, rfl, rfl, (one 9 _ rfl).hm, (one 9 _ rfl).g, (one 9 _ rfl).g.no _ (List.mem_singleton.mpr rfl)⟩
  | 10, _ => exact ⟨_, _, _, _, rfl, rfl, rfl, (one 10 _ rfl).hm, (one 10 _ rfl).g, (one 10 _ rfl).g.no _ (List.mem_singleton.mpr rfl)⟩
  | 11, _ => exact ⟨_, _, _, _, rfl, rfl, rfl, (one 11 _ rfl).hm, (one 11 _ rfl).g, (one 11 _ rfl).g.no _ (List.mem_singleton.mpr rfl)⟩
  | 12, _ => exact ⟨_, _, _, _, rfl, rfl, rfl, (one 12 _ rfl).hm, (one 12 _ rfl).g, (one 12 _ rfl).g.no _ (List.mem_singleton.mpr rfl)⟩
  | 13, _ => exact ⟨_, _, _, _, rfl, rfl, rfl, (one 13 _ rfl).hm, (one 13 _ rfl).g, (one 13 _ rfl).g.no _ (List.mem_singleton.mpr rfl)⟩
  | 14, _ => exact ⟨_, _, _, _, rfl, rfl, rfl, (one 14 _ rfl).hm, (one 14 _ rfl).g, (one 14 _ rfl).g.no _ (List.mem_singleton.mpr rfl)⟩
  | 15, _ => exact ⟨_, _, _, _, rfl, rfl, rfl, (one 15 _ rfl).hm, (one 15 _ rfl).g, (one 15 _ rfl).g.no _ (List.mem_singleton.mpr rfl)⟩
  | 16, _ => exact ⟨_, _, _, _, rfl, rfl, rfl, (one 16 _ rfl).hm, (one 16 _ rfl).g, (one 16 _ rfl).g.no _ (List.mem_singleton.mpr rfl)⟩
  | 17, _ => exact ⟨_, _, _, _, rfl, rfl, rfl, X.uc.hm, X.uc.g, X.uc.g.no "loader" (by simp)⟩
  | 18, _ => exact ⟨_, _, _, _, rfl, rfl, rfl, X.nf.hm, X.nf.g, X.nf.g.no "word" (by simp)⟩
  | k + 19, hk => exact absurd hk (by omega)
theorem allC (X : Excs P w K mg base) : AllC K mg := fun nm h => by
  obtain ⟨k, hk⟩ := List.mem_iff_getElem?.mp h
  have hl : k < 19 := by
    have := (List.getElem?_eq_some_iff.mp hk).1
    exact this
  obtain ⟨nm', fs, f, flds, _, h2, _, h4, h5, _⟩ := at_k X .non k hl
  rw [hk] at h2
  cases h2
  exact ⟨h4, f, flds, h5, ga_base X (names_sub _ h)⟩
def flags (k : Nat) : List Bool := (List.range 19).map fun j => decide (j = k)
theorem kinds_eq (X : Excs P w K mg base) {k : Nat} {nm : Str} (h : names19[k]? = some nm) : kinds K (He.ga K nm) = (flags k).map V.bl := by
  refine List.ext_getElem? fun j => ?_
  unfold kinds flags
  rw [List.getElem?_map, List.getElem?_map, List.getElem?_map]
  by_cases hj : j < 19
  · have h1 : ∃ n, names19[j]? = some n := ⟨_, List.getElem?_eq_getElem (by exact hj)⟩
    obtain ⟨n, hn⟩ := h1
    rw [hn, List.getElem?_range hj]
    show some (V.bl (decide (He.ga K nm = He.ga K n))) = some (V.bl (decide (j = k)))
    have e : (He.ga K nm = He.ga K n) ↔ (j = k) := by
      constructor
      · intro e
        have e2 := ga_inj X (names_sub _ (List.mem_of_getElem? h)) (names_sub _ (List.mem_of_getElem? hn)) e
        rw [← e2] at hn
        obtain ⟨l1, g1⟩ := List.getElem?_eq_some_iff.mp hn
        obtain ⟨l2, g2⟩ := List.getElem?_eq_some_iff.mp h
        exact (List.getElem_inj names_nd).mp (g1.trans g2.symm)
      · rintro rfl
        rw [hn] at h
        cases h
        rfl
    rw [decide_eq_decide.mpr e]
  · have h1 : names19[j]? = none := List.getElem?_eq_none_iff.mpr (by show 19 ≤ j; omega)
    rw [h1, List.getElem?_eq_none_iff.mpr (by rw [List.length_range]; omega)]
    rfl
theorem bools_dp {H : Hp} : ∀ bs : List Bool, DpAll K H (bs.map V.bl) (bs.map PyData.bool)
  | [] => .nil
  | b :: bs => .cons (.bl b) (bools_dp bs)
theorem bools_lay : ∀ bs : List Bool, PyData.canLayAll0 (bs.map PyData.bool) = true
  | [] => rfl
  | b :: bs => by
    show (true && PyData.canLayAll0 (bs.map PyData.bool)) = true
    rw [bools_lay bs]
    rfl
theorem bools_depth : ∀ bs : List Bool, PyData.depthAll (bs.map PyData.bool) = 0
  | [] => rfl
  | b :: bs => by
    have ih := bools_depth bs
    simp only [List.map_cons, PyData.depthAll, PyData.depth, ih]
    try rfl
theorem bools_shaped (bs : List Bool) : SeqAt.shaped (.list (bs.map PyData.bool)) = true := by
  unfold SeqAt.shaped
  rw [show PyData.canLay0 (.list (bs.map PyData.bool)) = PyData.canLayAll0 (bs.map PyData.bool) from by unfold PyData.canLay0; rfl, bools_lay]
  simp [PyData.depth, bools_depth]
theorem bools_eqv : ∀ bs : List Bool, PyData.eqvAll (bs.map PyData.bool) (bs.map PyData.bool) = true
  | [] => rfl
  | b :: bs => by
    simp only [List.map_cons, PyData.eqvAll, bools_eqv bs, Bool.and_true]
    cases b <;> rfl
end
end K30
set_option Elab.async false
set_option linter.all false
set_option maxRecDepth 100000
set_option maxHeartbeats 0
namespace K30
open PySem PySem.Spec PyProof.Rows L2
/-! ### the items -/
def itemsV (n : Int) (a1 a2 a3 : Addr) : List V := [.int n, .non, .bl true, .str "text", .ref a1, .ref a2, .ref a3]
theorem int_len {n : Int} (h0 : 0 ≤ n) (h1 : n < 10 ^ 18) : (Str.ofString (toString n)).length ≤ 19 ∧ n.natAbs.log2 < 1920 := by
  have hb : n.natAbs < 10 ^ 18 := by omega
  have e := int_text_length_le10 (k := 18) (by decide) hb
  refine ⟨by rw [PySem.ofString_length]; exact e, ?_⟩
  by_cases hz : n.natAbs = 0
  · rw [hz]
    decide
  · rw [Nat.log2_lt hz]
    exact Nat.lt_of_lt_of_le hb (by decide +kernel)
theorem pair_len (a b : Str) : (tupleText [a, b]).length = a.length + b.length + 4 := by
  have e : tupleText [a, b] = ((("(" : Str) ++ (a ++ (", " : Str) ++ b)) ++ (")" : Str)) := rfl
  rw [e]
  simp only [strLen_append]
  have h1 : (("(" : Str)).length = 1 := by decide +kernel
  have h3 : ((", " : Str)).length = 2 := by decide +kernel
  have h4 : ((")" : Str)).length = 1 := by decide +kernel
  omega
/-- what stands behind the items -/
structure Its3 (H : Hp) (n : Int) (a0 a1 a2 a3 : Addr) : Prop where
  t : H a1 = some (.tup [.str "a", .int n])
  i : H a0 = some (.lst [.int 2])
  l : H a2 = some (.lst [.int 1, .ref a0])
  d : H a3 = some (.dK [(.inr "a", .int 1)])
theorem items_show {H : Hp} {n : Int} {a0 a1 a2 a3 : Addr} (h0 : 0 ≤ n) (h1 : n < 10 ^ 18) (f : Its3 H n a0 a1 a2 a3) : ∀ x ∈ itemsV n a1 a2 a3, ∃ d, Shows H x d := by
  obtain ⟨hl, hs⟩ := int_len h0 h1
  intro x hx
  unfold itemsV at hx
  simp only [List.mem_cons, List.not_mem_nil, or_false] at hx
  rcases hx with rfl | rfl | rfl | rfl | rfl | rfl | rfl
  · exact ⟨.int n, .int n, by simp only [PyData.showable, decide_eq_true_eq]; exact hs, by simp only [PyData.shown]; omega, by simp [PyData.depth]⟩
  · exact ⟨.none, .non, rfl, by decide +kernel, by decide⟩
  · exact ⟨.bool true, .bl true, rfl, by decide +kernel, by decide⟩
  · exact ⟨.str "text", .str _, rfl, by decide +kernel, by decide⟩
  · refine ⟨.tuple [.str "a", .int n], .tup f.t (.cons (.str _) (.cons (.int n) .nil)), ?_, ?_, ?_⟩
    · simp only [PyData.showable, PyData.showableAll, Bool.true_and, Bool.and_true, decide_eq_true_eq]
      exact hs
    · simp only [PyData.shown, PyData.shownAll]
      rw [pair_len]
      have : (reprText "a").length = 3 := by decide +kernel
      omega
    · simp [PyData.depth, PyData.depthAll]
  · exact ⟨.list [.int 1, .list [.int 2]], .lst f.l (.cons (.int 1) (.cons (.lst f.i (.cons (.int 2) .nil)) .nil)), by decide +kernel, by decide +kernel, by decide +kernel⟩
  · exact ⟨.dict [(.str "a", .int 1)], .dk (ds := [.int 1]) f.d (.cons (.int 1) .nil), by decide +kernel, by decide +kernel, by decide +kernel⟩
/-! ### the law -/
theorem boot_ve : bootBuiltins "ValueError" = some (.type "ValueError") := by kernel_rfl
theorem boot_le : bootBuiltins "LookupError" = some (.type "LookupError") := by kernel_rfl
theorem boot_re : bootBuiltins "RuntimeError" = some (.type "RuntimeError") := by kernel_rfl
theorem boot_oe : bootBuiltins "OverflowError" = some (.type "OverflowError") := by kernel_rfl
theorem boot_te : bootBuiltins "TypeError" = some (.type "TypeError") := by kernel_rfl
abbrev nLaw : List Str := ["_law_script", "_law_turn", "_law_source_here", "_law_number", "_law_item", "_law_made", "_law_at", "_law_spot"]
theorem scLaw : FnScope nLaw ["_law_script"] (defScope sLaw) := ⟨rfl, rfl, rfl, by decide +kernel, rfl, by decide +kernel, by decide +kernel⟩
def spLaw (K : PySem.W.Frag) : Sp := fun vs H Q _ => ∃ (a : Addr) (ns : List Int), vs = [.ref a] ∧ SqL K H a (ns.map V.int) ∧ ns.length ≤ 63 ∧ ∀ H', Q (.bl true) H'
structure Defs (P : Program) (w : World) (K : PySem.W.Frag) (mg : Str → Option Value) (base : Heap) : Prop where
  t : Txt mg
  x : Excs P w K mg base
  hB : mg "ClassError" = some (.ref (baseA K))
  sd : EX2.SysD base
  source : ∃ f fd, mg "_law_source" = some (.ref f) ∧ FnP K "_law_source" sSource f fd
  draw : ∃ f fd, mg "_law_draw" = some (.ref f) ∧ FnP K "_law_draw" sDraw f fd
  all : ∃ f fd, mg "_law_all" = some (.ref f) ∧ FnP K "_law_all" sAll f fd
  held : ∃ f fd, mg "_law_held" = some (.ref f) ∧ FnP K "_law_held" sHeld f fd
  others : ∃ f fd, mg "_law_others_right" = some (.ref f) ∧ FnP K "_law_others_right" sOthers f fd
  kinds : ∃ f fd, mg "_law_kinds" = some (.ref f) ∧ FnP K "_law_kinds" sKinds f fd
section
variable {P : Program} {w : World} {K : PySem.W.Frag} {mg : Str → Option Value} {base : Heap} {f : Addr} {fd : FuncData}
theorem ok_law (F : FnP K "law" sLaw f fd) (D : Defs P w K mg base) : EX2.FnOkG P w K mg base 4 f fd ["_law_script"] (spLaw K) := by
  have T := D.t
  have X := D.x
  have sd := D.sd
  obtain ⟨fS, fdS, gS, FS⟩ := D.source
  obtain ⟨fD, fdD, gD, FD⟩ := D.draw
  obtain ⟨fA, fdA, gA, FA⟩ := D.all
  obtain ⟨fH, fdH, gH, FH⟩ := D.held
  obtain ⟨fO, fdO, gO, FO⟩ := D.others
  obtain ⟨fK, fdK, gK, FK⟩ := D.kinds
  have GS : FnOk P w K mg base CX0 3 fS fdS ["_law_script", "_law_turn"] (spSource K) := (ok_source FS T).mono (by decide)
  have GD : FnOk P w K mg base CX0 3 fD fdD ["_law_source_here", "_law_amount"] spDraw := (ok_draw FD T).mono (by decide)
  have GA : FnOk P w K mg base CX0 3 fA fdA ["_law_item"] (spAll K) := ok_all FA X
  have GH : FnOk P w K mg base CX0 3 fH fdH ["_law_at", "_law_error"] (spHeld K) := (ok_held FH).mono (by decide)
  have GK : FnOk P w K mg base CX0 3 fK fdK ["_law_error"] (spKinds K) := (ok_kinds FK T (allC X)).mono (by decide)
  have GO : EX2.FnOkG P w K mg base 3 fO fdO ["_law_item"] spOthers := ok_others FO T X sd
  have bS : Binds K fdS ["_law_script", "_law_turn"] [] := FS.bindsN fun _ _ _ _ _ _ us hl => match us, hl with | [_, _], _ => rfl
  have bD : Binds K fdD ["_law_source_here", "_law_amount"] [] := FD.bindsN fun _ _ _ _ _ _ us hl => match us, hl with | [_, _], _ => rfl
  have bA : Binds K fdA ["_law_item"] [] := FA.bindsN fun _ _ _ _ _ _ us hl => match us, hl with | [_], _ => rfl
  have bH : Binds K fdH ["_law_at", "_law_error"] [] := FH.bindsN fun _ _ _ _ _ _ us hl => match us, hl with | [_, _], _ => rfl
  have bK : Binds K fdK ["_law_error"] [] := FK.bindsN fun _ _ _ _ _ _ us hl => match us, hl with | [_], _ => rfl
  have bO : Binds K fdO ["_law_item"] [] := FO.bindsN fun _ _ _ _ _ _ us hl => match us, hl with | [_], _ => rfl
  refine EX2.okG F scLaw (fun vs H Q E h => ?_) (fun cdv A outer s H vs Q E hg hr h => ?_)
  · obtain ⟨a, ns, rfl, _⟩ := h
    rfl
  · obtain ⟨a, ns, rfl, hS, hns, hQ⟩ := h
    have hG : (A.deeper (envOfC "law" (defScope sLaw) s.heap.objs.size f cdv)).guards = some [] := by rw [EX2.guards_deeper]; exact hg
    have hu : (A.deeper (envOfC "law" (defScope sLaw) s.heap.objs.size f cdv)).units + 65 < cLine := by have := hr.un; omega
    refine ⟨_, PSs.nox (pss_cons (ps_for PassesOwn.never rfl (pi_range1 rfl T.rng (pa_cons (pe_callB (call_max2 rfl) rfl T.max boot_max (pa_cons pe_int (pa_cons (pe_callB (call_min2 rfl) rfl T.min boot_min (pa_cons (pe_callB call_len rfl T.len boot_len (pa_cons (pv 0) pa_nil)) (pa_cons pe_int pa_nil))) pa_nil))) pa_nil)) (pg_name (i := 1) scLaw.nd rfl (Or.inl rfl))
        (pss_cons (ps_set (i := 2) scLaw.nd rfl (Or.inl rfl) (pe_call GS hr rfl gS FS.kp bS .nil pass0 (pa_cons (pv 0) (pa_cons (pv 1) pa_nil))))
        (pss_cons (ps_set (i := 3) scLaw.nd rfl (Or.inl rfl) (pe_call GD hr rfl gD FD.kp bD .nil pass0 (pa_cons (pv 2) (pa_cons (pe_op op_pow pe_int pe_int) pa_nil))))
        (pss_one (ps_for PassesOwn.never rfl (pi_list (pe_lst (pa_cons (pv 3) (pa_cons pe_non (pa_cons pe_bl (pa_cons pe_str (pa_cons (pe_tup (pa_cons pe_str (pa_cons (pv 3) pa_nil))) (pa_cons (pe_lst (pa_cons pe_int (pa_cons (pe_lst (pa_cons pe_int pa_nil)) pa_nil)))
              (pa_cons (pe_disp (pps_cons pe_str pe_int pps_nil) rfl rfl (by simp) (by decide)) pa_nil))))))))) (pg_name (i := 4) scLaw.nd rfl (Or.inl rfl))
          (pss_cons (ps_set (i := 5) scLaw.nd rfl (Or.inl rfl) (pe_call GA hr rfl gA FA.kp bA .nil pass0 (pa_cons (pv 4) pa_nil)))
          (pss_cons (ps_for PassesOwn.never rfl (pi_range1 rfl T.rng (pa_cons (pe_callB call_len rfl T.len boot_len (pa_cons (pv 5) pa_nil)) pa_nil)) (pg_name (i := 6) scLaw.nd rfl (Or.inr rfl))
            (pss_cons (ps_if (PW.pt (pw_or (pt_cmpR op_ne (pe_callB (EX2.call_reprD hG hu sd) rfl T.rep boot_rep (pa_cons (pe_call GH hr rfl gH FH.kp bH .nil pass0 (pa_cons (pv 6) (pa_cons (pe_ix ix_list (pv 5) (pv 6) (fun _ _ => rfl)) pa_nil))) pa_nil))
                  (pe_callB (EX2.call_reprD hG hu sd) rfl T.rep boot_rep (pa_cons (pv 4) pa_nil)) (nomark _))
                (pw_or1 (pt_not (pt_val (pe_callB EX2.call_isX rfl T.isi boot_isi (pa_cons (pe_ix ix_list (pv 5) (pv 6) (fun _ _ => rfl)) (pa_cons (pe_glob rfl D.hB (v := .ref (baseA K)) rfl) pa_nil)))))))) (pss_one (ps_ret pe_bl)) pss_nil)
            (pss_cons (ps_if (pt_cmpR (op_neD hr.units) (pe_call GK hr rfl gK FK.kp bK .nil pass0 (pa_cons (pe_ix ix_list (pv 5) (pv 6) (fun _ _ => rfl)) pa_nil))
                (pe_lc (own := [("_law_spot", 7)]) (g := gName 7) (tt := tYes) rfl scLaw.nd (pi_range1 rfl T.rng (pa_cons (pe_callB call_len rfl T.len boot_len (pa_cons (pv 5) pa_nil)) pa_nil)) (blkOk_by (N := nLaw) (sc := defScope sLaw) (by decide +kernel))
                  (fun _ _ _ _ _ => pg_name (i := 7) scLaw.nd rfl (Or.inl rfl)) (fun _ _ _ _ _ => pts_nil) (fun _ _ _ _ _ => pe_cmpR op_eq (pv 7) (pv 6) (by rfl))) (nomark _)) (pss_one (ps_ret pe_bl)) pss_nil)
            (pss_one (ps_if (pt_val (pe_callB EX2.call_isXT rfl T.isi boot_isi (pa_cons (pe_ix ix_list (pv 5) (pv 6) (fun _ _ => rfl)) (pa_cons (pe_tup (pa_cons (pe_bltn rfl T.ve boot_ve (v := .ty "ValueError") rfl) (pa_cons (pe_bltn rfl T.le boot_le (v := .ty "LookupError") rfl) (pa_cons (pe_bltn rfl T.re boot_re (v := .ty "RuntimeError") rfl)
                  (pa_cons (pe_bltn rfl T.oe boot_oe (v := .ty "OverflowError") rfl) (pa_cons (pe_bltn rfl T.te boot_te (v := .ty "TypeError") rfl) pa_nil)))))) pa_nil)))) (pss_one (ps_ret pe_bl)) pss_nil)))))
          (pss_one (ps_if (pt_not (pt_val (EX2.pe_callG GO hG hr rfl gO FO.kp bO (pa_cons (pv 4) pa_nil)))) (pss_one (ps_ret pe_bl)) pss_nil)))))))))
        (pss_one (ps_ret pe_bl))), ?_⟩
    have hmax : ∀ m : Int, m ≤ 8 → (if m > 1 then m else 1) ≤ 8 ∧ 1 ≤ (if m > 1 then m else 1) := fun m hm => by split <;> omega
    have hmin : (if (8 : Int) < ((ns.map V.int).length : Int) then (8 : Int) else ((ns.map V.int).length : Int)) ≤ 8 := by split <;> omega
    obtain ⟨hj1, hj2⟩ := hmax _ hmin
    refine ⟨_, rfl, _, _, rfl, Or.inl ⟨_, hS, rfl⟩, _, _, rfl, _, _, rfl, _, rfl, ?_, ?_, ?_⟩
    · exact Int.le_trans (by decide) hj2
    · exact Int.lt_of_le_of_lt hj1 (by decide)
    generalize (if (if (8 : Int) < ((ns.map V.int).length : Int) then (8 : Int) else ((ns.map V.int).length : Int)) > 1 then (if (8 : Int) < ((ns.map V.int).length : Int) then (8 : Int) else ((ns.map V.int).length : Int)) else 1) = J at hj1 hj2
    refine for_it walk_range (fun i σ H1 => Evl.Ex H H1 ∧ ∃ v1 v2 v3 v4 v5 v6, σ = [some (.ref a), v1, v2, v3, v4, v5, v6, none]) ⟨Evl.Ex.refl _, none, none, none, none, none, none, rfl⟩ (fun _ _ _ _ _ => trivial) ?_ (fun σ H1 _ => hQ H1)
    rintro i x σ H1 H2 hi ⟨e1, v1, v2, v3, v4, v5, v6, rfl⟩ ⟨rfl, rfl⟩
    have hi8 : (i : Int) < 8 := by omega
    refine ⟨_, rfl, _, rfl, a, ns, 0 + (i : Int), rfl, Evl.ex_l e1 hS, by omega, by omega, fun p N S hp hN hS1 hS2 => ?_⟩
    have hp0 : H p = none := Evl.fresh_back e1 hp
    refine ⟨_, rfl, _, _, rfl, rfl, ⟨by decide, by decide, by decide⟩, p, N, S, _, rfl, upd_same, hN, hS1, hS2, by decide +kernel, by decide +kernel, fun d N' S' d0 d1 n0 s0 s1 => ?_⟩
    have d1' : d < 10 ^ 18 := d1
    have e3 : Evl.Ex H (upd (upd H2 p (.lst [.int N, .int S])) p (.lst [.int N', .int S'])) := (e1.trans (Evl.Ex.new hp)).mut hp0
    generalize upd (upd H2 p (.lst [.int N, .int S])) p (.lst [.int N', .int S']) = H3 at e3
    refine ⟨_, rfl, _, rfl, two_ok, fun q1 h1 => ⟨le_line (by simp), fun q0 h0 => ⟨le_line (by simp), fun q2 h2 q3 h3 => ?_⟩⟩⟩
    refine ⟨upd_same, [(.inr "a", .int 1)], rfl, by decide, le_line (by simp), fun L hL => ⟨L, rfl, ⟨_, SqL.of upd_same⟩, ?_⟩⟩
    generalize hH4 : upd _ L _ = H4
    have c1 := Evl.Ex.new (o := .tup [.str "a", .int d]) h1
    have c0 := Evl.Ex.new (o := .lst [.int 2]) h0
    have c2 := Evl.Ex.new (o := .lst [.int 1, .ref q0]) h2
    have c3 := (Evl.Ex.new (o := .dK []) h3).mut (o := .dK (mergeK [] [(.inr "a", .int 1)])) h3
    have c4 := Evl.Ex.new (o := .lst (itemsV d q1 q2 q3)) hL
    have e4 : Evl.Ex H3 H4 := by rw [← hH4]; exact (((c1.trans c0).trans c2).trans c3).trans c4
    have hL4 : H4 L = some (.lst (itemsV d q1 q2 q3)) := (congrFun hH4 L).symm.trans upd_same
    have f4 : Its3 H4 d q0 q1 q2 q3 := by
      rw [← hH4]
      exact ⟨c4 _ _ (c3 _ _ (c2 _ _ (c0 _ _ upd_same))), c4 _ _ (c3 _ _ (c2 _ _ upd_same)), c4 _ _ (c3 _ _ upd_same), c4 _ _ upd_same⟩
    refine for_it (walk_list (xs := itemsV d q1 q2 q3)) (fun j σ H5 => Evl.Ex H4 H5 ∧ ∃ v4 v5 v6, σ = [some (.ref a), some (.int (0 + (i : Int))), some (.ref p), some (.int d), v4, v5, v6, none]) ⟨Evl.Ex.refl _, v4, v5, v6, rfl⟩ (fun _ _ _ _ h => Evl.ex_l h.1 (SqL.of hL4)) ?_ ?_
    · rintro j x σ H5 H6 hj ⟨e5, v4, v5, v6, rfl⟩ ⟨rfl, hx⟩
      obtain ⟨dd, hSh⟩ := items_show d0 d1' f4 x (List.mem_of_getElem? hx)
      refine ⟨_, rfl, x, rfl, fun H7 M es e7 hM hMd => ?_⟩
      have hSh7 := hSh.ext (e5.trans e7)
      have hlen : (es.map V.ref).length = 19 := by rw [List.length_map, hMd.len, made_len]
      have hlenI : ((es.map V.ref).length : Int) = 19 := by rw [hlen]; rfl
      refine ⟨_, rfl, _, _, rfl, Or.inl ⟨_, SqL.of hM, rfl⟩, _, rfl, by rw [hlenI]; decide, by rw [hlenI]; decide, ?_⟩
      refine for_it walk_range (fun k σ H8 => Evl.Ex H7 H8 ∧ ∃ v6, σ = [some (.ref a), some (.int (0 + (i : Int))), some (.ref p), some (.int d), some x, some (.ref M), v6, none]) ⟨Evl.Ex.refl _, v6, rfl⟩ (fun _ _ _ _ _ => trivial) ?_ ?_
      · rintro k y σ H8 H9 hk ⟨e8, v6, rfl⟩ ⟨rfl, rfl⟩
        have hk19 : k < 19 := by rw [hlenI] at hk; exact hk
        obtain ⟨nm, fs, f', flds, hm1, hn1, hl1, hg1, hcl, hno⟩ := at_k X x k hk19
        obtain ⟨ek, hek, hE7⟩ := hMd.get hm1
        have hE := hE7.ext e8
        have hM8 := e8 _ _ hM
        have hSh8 := hSh7.ext e8
        have hat : L2.atI (es.map V.ref) (0 + (k : Int)) = some (.ref ek) := by
          rw [Int.zero_add]
          exact atI_nat (by rw [List.getElem?_map, hek]; rfl)
        have hz : (0 + (k : Int)) = (k : Int) := Int.zero_add _
        refine ⟨_, rfl, _, rfl, _, rfl, M, _, 0 + (k : Int), .ref ek, rfl, rfl, SqL.of hM8, hat, 0 + (k : Int), ek, _, fs, x, rfl, hE, hcl.x, by rw [hz]; exact hno, by rw [hz]; exact hl1, ?_⟩
        have sl : dd.shown.length ≤ sizeLine := Nat.le_trans hSh.z (by rw [sizeLine_eq]; decide)
        have sdp : dd.depth ≤ 60 := Nat.le_trans hSh.p (by decide)
        refine ⟨x, dd, rfl, hSh8.q, hSh.s, sl, sdp, ?_⟩
        refine ⟨_, rfl, x, dd, rfl, hSh8.q, hSh.s, sl, sdp, rfl, _, rfl, ?_⟩
        rw [show (!decide (V.str dd.shown = V.str dd.shown)) = false from by rw [decide_eq_true rfl]; rfl]
        refine iteF ?_
        refine ⟨_, rfl, _, rfl, M, _, 0 + (k : Int), .ref ek, rfl, rfl, SqL.of hM8, hat, ek, _, fs, _, _, true, rfl, .own _, hE, hcl.c, hcl.kitB X.hB, _, rfl, iteF ?_⟩
        refine ⟨_, rfl, _, rfl, M, _, 0 + (k : Int), .ref ek, rfl, rfl, SqL.of hM8, hat, ek, _, fs, f', flds, rfl, hE, hcl, fun H9 Lk e9 hLk => ?_⟩
        have hM9 := e9 _ _ hM8
        refine ⟨_, rfl, _, _, rfl, Or.inl ⟨_, SqL.of hM9, rfl⟩, _, rfl, by rw [hlenI]; decide, by rw [hlenI]; decide, fun D1 hD1 => ?_⟩
        refine lc_it walk_range (fun j H' => Evl.Ex H9 H' ∧ H' D1 = some (.lst (((List.range j).map fun i => decide (i = k)).map V.bl))) ⟨Evl.Ex.new hD1, upd_same⟩ (fun _ _ _ _ => trivial) ?_ ?_
        · rintro j y H10 H11 hj ⟨e10, hd⟩ ⟨rfl, rfl⟩
          refine ⟨rfl, ?_⟩
          unfold tYes
          dsimp only
          rw [if_pos rfl]
          refine ⟨_, rfl, _, rfl, rfl, _, hd, ?_, e10.mut hD1, ?_⟩
          · rw [List.length_map, List.length_map, List.length_range]
            have : (19 : Nat) < sizeLine := by rw [sizeLine_eq]; decide
            rw [hlenI] at hj
            have : j < 19 := hj
            omega
          · rw [upd_same, List.range_succ, List.map_append, List.map_append]
            have e : decide (V.int (0 + (j : Int)) = V.int (0 + (k : Int))) = decide (j = k) := by
              rw [int_eqd]
              exact decide_eq_decide.mpr (by omega)
            rw [e]
            rfl
        · rintro H10 ⟨e10, hd⟩
          rw [hlenI] at hd
          have hd' : H10 D1 = some (.lst ((flags k).map V.bl)) := hd
          have hLk' : H10 Lk = some (.lst ((flags k).map V.bl)) := by
            rw [← kinds_eq X hn1]
            exact e10 _ _ hLk
          refine ⟨_, _, .lst (SqL.of hLk') (bools_dp (flags k)), .lst (SqL.of hd') (bools_dp (flags k)), bools_shaped _, bools_shaped _, _, rfl, ?_⟩
          rw [show (!PyData.eqv (.list ((flags k).map PyData.bool)) (.list ((flags k).map PyData.bool))) = false from by simp only [PyData.eqv, bools_eqv]; rfl]
          refine iteF ?_
          have e11 := e9.trans e10
          refine ⟨_, rfl, _, rfl, M, _, 0 + (k : Int), .ref ek, rfl, rfl, SqL.of (e11 _ _ hM8), hat, le_line (by simp), fun tp htp => ?_⟩
          have e12 := e11.trans (Evl.Ex.new (o := .tup [.ty "ValueError", .ty "LookupError", .ty "RuntimeError", .ty "OverflowError", .ty "TypeError"]) htp)
          refine ⟨ek, _, fs, tp, _, _, false, rfl, upd_same, .cons (.ty _) (.cons (.ty _) (.cons (.ty _) (.cons (.ty _) (.cons (.ty _) .nil)))), hE.ext e12, hcl.c, ?_, _, rfl, iteF ⟨e8.trans e12, _, rfl⟩⟩
          have kt : ∀ (t : String), PySem.W.kitMeta t = true → EX2.bmE.contains (.type t) = false → PySem.W.kitOne K (.ref (He.ga K nm)) (.type t) = some false := fun t h1 h2 => hcl.kitT h1 h2
          exact kitAny_cons (kt _ (by decide +kernel) (by decide +kernel)) (fun _ => kitAny_cons (kt _ (by decide +kernel) (by decide +kernel)) (fun _ => kitAny_cons (kt _ (by decide +kernel) (by decide +kernel)) (fun _ => kitAny_cons (kt _ (by decide +kernel) (by decide +kernel))
            (fun _ => kitAny_cons (kt _ (by decide +kernel) (by decide +kernel)) (fun _ => kitAny_nil) nofun) nofun) nofun) nofun) nofun
      · rintro σ H8 ⟨e8, v6, rfl⟩
        refine ⟨_, rfl, x, dd, rfl, hSh7.ext e8, fun H9 e9 => ⟨_, rfl, iteF ⟨((e5.trans e7).trans e8).trans e9, _, _, _, rfl⟩⟩⟩
    · rintro σ H5 ⟨e5, v4, v5, v6, rfl⟩
      exact ⟨(e3.trans e4).trans e5, _, _, _, _, _, _, rfl⟩
end
end K30
set_option Elab.async false
set_option linter.all false
set_option maxRecDepth 100000
set_option maxHeartbeats 0
namespace EX2
open PySem PySem.Spec PyProof.Rows L2
theorem SuF.binds {P : Program} {K : PySem.W.Frag} {qual : Str} {st : Stmt} {C f : Addr} {fd : FuncData} {ps : List Str} (F : SuF P K qual st C f fd)
    (h : ∀ (doc pm ctv : Value) (cc c : Addr) (us : List Value), us.length = ps.length → bindArgs ((NdefX.NF.mk "__init__" qual (defArgs st) (defBody st) (defScope st) [("__class__", cc)] c).fd doc pm ctv) ⟨us, []⟩ = pure (ps.zip us)) : Binds K fd ps [] := by
  obtain ⟨oc, od, osl, doc, pm, ctv, cc, c, ocl, occ, vs, file, tf, rfl, _⟩ := F.ex
  exact .all (h doc pm ctv cc c)
theorem any_free {K : PySem.W.Frag} (hb : bltB K = true) : PySem.W.nsIn K cStatics "thirdparty.any" = some none := by
  unfold bltB at hb
  simp only [Bool.and_eq_true] at hb
  exact He.eqO_ok hb.2.2.1
end EX2
namespace K30
open PySem PySem.Spec PyProof.Rows L2
section
variable {w : World} {K : PySem.W.Frag} {mg : Str → Option Value} {base h : Heap}
abbrev PP : Program := RW.prog
theorem htop : (PP.main.scope.names.lookup ("super" : Str)).isSome = false := by decide +kernel
theorem one_InvalidName (X : K.In h) (G : h.Ns mainGlobals mg) (d : He.SaysD fa fn K) (hb : EX2.sudB PP.main.file K "ClassError" xs = true) (hs : xs.map (fun d => EX2.suW K d.cls) = xs.map EX2.SuD.val) (hB : EX2.bltB K = true) (gS : mg "super" = none) : One PP w K mg base "InvalidName" "given" := by
  obtain ⟨g, fd, F⟩ := EX2.sud_at (P := PP) hb hs 0 (d := sd "InvalidName" "InvalidName.__init__" 2 ["given"]) rfl
  exact ⟨He.glo_ok X G (d.fact 8 (f := .glo "InvalidName") rfl), g, fd, "given", EX2.ok_x1 F g.t (g.no _ (List.mem_singleton.mpr rfl)) rfl (NdefX.nscope_by (by decide +kernel)) rfl rfl g.su g.self (EX2.any_free hB) rfl gS htop (by decide) (by decide),
    F.binds fun _ _ _ _ _ us hl => match us, hl with | [_, _], _ => rfl⟩
theorem one_InvalidMethod (X : K.In h) (G : h.Ns mainGlobals mg) (d : He.SaysD fa fn K) (hb : EX2.sudB PP.main.file K "ClassError" xs = true) (hs : xs.map (fun d => EX2.suW K d.cls) = xs.map EX2.SuD.val) (hB : EX2.bltB K = true) (gS : mg "super" = none) : One PP w K mg base "InvalidMethod" "given" := by
  obtain ⟨g, fd, F⟩ := EX2.sud_at (P := PP) hb hs 1 (d := sd "InvalidMethod" "InvalidMethod.__init__" 3 ["given"]) rfl
  exact ⟨He.glo_ok X G (d.fact 9 (f := .glo "InvalidMethod") rfl), g, fd, "given", EX2.ok_x1 F g.t (g.no _ (List.mem_singleton.mpr rfl)) rfl (NdefX.nscope_by (by decide +kernel)) rfl rfl g.su g.self (EX2.any_free hB) rfl gS htop (by decide) (by decide),
    F.binds fun _ _ _ _ _ us hl => match us, hl with | [_, _], _ => rfl⟩
theorem one_InvalidClass (X : K.In h) (G : h.Ns mainGlobals mg) (d : He.SaysD fa fn K) (hb : EX2.sudB PP.main.file K "ClassError" xs = true) (hs : xs.map (fun d => EX2.suW K d.cls) = xs.map EX2.SuD.val) (hB : EX2.bltB K = true) (gS : mg "super" = none) : One PP w K mg base "InvalidClass" "given" := by
  obtain ⟨g, fd, F⟩ := EX2.sud_at (P := PP) hb hs 2 (d := sd "InvalidClass" "InvalidClass.__init__" 4 ["given"]) rfl
  exact ⟨He.glo_ok X G (d.fact 10 (f := .glo "InvalidClass") rfl), g, fd, "given", EX2.ok_x1 F g.t (g.no _ (List.mem_singleton.mpr rfl)) rfl (NdefX.nscope_by (by decide +kernel)) rfl rfl g.su g.self (EX2.any_free hB) rfl gS htop (by decide) (by decide),
    F.binds fun _ _ _ _ _ us hl => match us, hl with | [_, _], _ => rfl⟩
theorem one_InvalidTable (X : K.In h) (G : h.Ns mainGlobals mg) (d : He.SaysD fa fn K) (hb : EX2.sudB PP.main.file K "ClassError" xs = true) (hs : xs.map (fun d => EX2.suW K d.cls) = xs.map EX2.SuD.val) (hB : EX2.bltB K = true) (gS : mg "super" = none) : One PP w K mg base "InvalidTable" "given" := by
  obtain ⟨g, fd, F⟩ := EX2.sud_at (P := PP) hb hs 3 (d := sd "InvalidTable" "InvalidTable.__init__" 5 ["given"]) rfl
  exact ⟨He.glo_ok X G (d.fact 11 (f := .glo "InvalidTable") rfl), g, fd, "given", EX2.ok_x1 F g.t (g.no _ (List.mem_singleton.mpr rfl)) rfl (NdefX.nscope_by (by decide +kernel)) rfl rfl g.su g.self (EX2.any_free hB) rfl gS htop (by decide) (by decide),
    F.binds fun _ _ _ _ _ us hl => match us, hl with | [_, _], _ => rfl⟩
theorem one_NameTaken (X : K.In h) (G : h.Ns mainGlobals mg) (d : He.SaysD fa fn K) (hb : EX2.sudB PP.main.file K "ClassError" xs = true) (hs : xs.map (fun d => EX2.suW K d.cls) = xs.map EX2.SuD.val) (hB : EX2.bltB K = true) (gS : mg "super" = none) : One PP w K mg base "NameTaken" "given" := by
  obtain ⟨g, fd, F⟩ := EX2.sud_at (P := PP) hb hs 4 (d := sd "NameTaken" "NameTaken.__init__" 6 ["given"]) rfl
  exact ⟨He.glo_ok X G (d.fact 12 (f := .glo "NameTaken") rfl), g, fd, "given", EX2.ok_x1 F g.t (g.no _ (List.mem_singleton.mpr rfl)) rfl (NdefX.nscope_by (by decide +kernel)) rfl rfl g.su g.self (EX2.any_free hB) rfl gS htop (by decide) (by decide),
    F.binds fun _ _ _ _ _ us hl => match us, hl with | [_, _], _ => rfl⟩
theorem one_UnknownLoader (X : K.In h) (G : h.Ns mainGlobals mg) (d : He.SaysD fa fn K) (hb : EX2.sudB PP.main.file K "ClassError" xs = true) (hs : xs.map (fun d => EX2.suW K d.cls) = xs.map EX2.SuD.val) (hB : EX2.bltB K = true) (gS : mg "super" = none) : One PP w K mg base "UnknownLoader" "given" := by
  obtain ⟨g, fd, F⟩ := EX2.sud_at (P := PP) hb hs 5 (d := sd "UnknownLoader" "UnknownLoader.__init__" 7 ["given"]) rfl
  exact ⟨He.glo_ok X G (d.fact 13 (f := .glo "UnknownLoader") rfl), g, fd, "given", EX2.ok_x1 F g.t (g.no _ (List.mem_singleton.mpr rfl)) rfl (NdefX.nscope_by (by decide +kernel)) rfl rfl g.su g.self (EX2.any_free hB) rfl gS htop (by decide) (by decide),
    F.binds fun _ _ _ _ _ us hl => match us, hl with | [_, _], _ => rfl⟩
theorem two_UnknownClass (X : K.In h) (G : h.Ns mainGlobals mg) (d : He.SaysD fa fn K) (hb : EX2.sudB PP.main.file K "ClassError" xs = true) (hs : xs.map (fun d => EX2.suW K d.cls) = xs.map EX2.SuD.val) (hB : EX2.bltB K = true) (gS : mg "super" = none) : Two PP w K mg base "UnknownClass" := by
  obtain ⟨g, fd, F⟩ := EX2.sud_at (P := PP) hb hs 6 (d := sd "UnknownClass" "UnknownClass.__init__" 8 ["loader", "word"]) rfl
  exact ⟨He.glo_ok X G (d.fact 14 (f := .glo "UnknownClass") rfl), g, fd, EX2.ok_x2 F g.t (g.no "loader" (by simp [sd])) (g.no "word" (by simp [sd])) rfl (NdefX.nscope_by (by decide +kernel)) rfl rfl g.su g.self (EX2.any_free hB) rfl gS htop (by decide) (by decide) (by decide) (by decide),
    F.binds fun _ _ _ _ _ us hl => match us, hl with | [_, _, _], _ => rfl⟩
theorem two_NameFixed (X : K.In h) (G : h.Ns mainGlobals mg) (d : He.SaysD fa fn K) (hb : EX2.sudB PP.main.file K "ClassError" xs = true) (hs : xs.map (fun d => EX2.suW K d.cls) = xs.map EX2.SuD.val) (hB : EX2.bltB K = true) (gS : mg "super" = none) : Two PP w K mg base "NameFixed" := by
  obtain ⟨g, fd, F⟩ := EX2.sud_at (P := PP) hb hs 7 (d := sd "NameFixed" "NameFixed.__init__" 9 ["loader", "word"]) rfl
  exact ⟨He.glo_ok X G (d.fact 15 (f := .glo "NameFixed") rfl), g, fd, EX2.ok_x2 F g.t (g.no "loader" (by simp [sd])) (g.no "word" (by simp [sd])) rfl (NdefX.nscope_by (by decide +kernel)) rfl rfl g.su g.self (EX2.any_free hB) rfl gS htop (by decide) (by decide) (by decide) (by decide),
    F.binds fun _ _ _ _ _ us hl => match us, hl with | [_, _, _], _ => rfl⟩
theorem one_LimitExceeded (X : K.In h) (G : h.Ns mainGlobals mg) (d : He.SaysD fa fn K) (hb : EX2.sudB PP.main.file K "ClassError" xs = true) (hs : xs.map (fun d => EX2.suW K d.cls) = xs.map EX2.SuD.val) (hB : EX2.bltB K = true) (gS : mg "super" = none) : One PP w K mg base "LimitExceeded" "limit" := by
  obtain ⟨g, fd, F⟩ := EX2.sud_at (P := PP) hb hs 8 (d := sd "LimitExceeded" "LimitExceeded.__init__" 10 ["limit"]) rfl
  exact ⟨He.glo_ok X G (d.fact 16 (f := .glo "LimitExceeded") rfl), g, fd, "limit", EX2.ok_x1 F g.t (g.no _ (List.mem_singleton.mpr rfl)) rfl (NdefX.nscope_by (by decide +kernel)) rfl rfl g.su g.self (EX2.any_free hB) rfl gS htop (by decide) (by decide),
    F.binds fun _ _ _ _ _ us hl => match us, hl with | [_, _], _ => rfl⟩
theorem one_Failing (X : K.In h) (G : h.Ns mainGlobals mg) (d : He.SaysD fa fn K) (hb : EX2.sudB PP.main.file K "ClassError" xs = true) (hs : xs.map (fun d => EX2.suW K d.cls) = xs.map EX2.SuD.val) (hB : EX2.bltB K = true) (gS : mg "super" = none) : One PP w K mg base "Failing" "failure" := by
  obtain ⟨g, fd, F⟩ := EX2.sud_at (P := PP) hb hs 9 (d := sd "Failing" "Failing.__init__" 11 ["failure"]) rfl
  exact ⟨He.glo_ok X G (d.fact 17 (f := .glo "Failing") rfl), g, fd, "failure", EX2.ok_x1 F g.t (g.no _ (List.mem_singleton.mpr rfl)) rfl (NdefX.nscope_by (by decide +kernel)) rfl rfl g.su g.self (EX2.any_free hB) rfl gS htop (by decide) (by decide),
    F.binds fun _ _ _ _ _ us hl => match us, hl with | [_, _], _ => rfl⟩
theorem one_ParseError (X : K.In h) (G : h.Ns mainGlobals mg) (d : He.SaysD fa fn K) (hb : EX2.sudB PP.main.file K "ClassError" xs = true) (hs : xs.map (fun d => EX2.suW K d.cls) = xs.map EX2.SuD.val) (hB : EX2.bltB K = true) (gS : mg "super" = none) : One PP w K mg base "ParseError" "line" := by
  obtain ⟨g, fd, F⟩ := EX2.sud_at (P := PP) hb hs 10 (d := sd "ParseError" "ParseError.__init__" 12 ["line"]) rfl
  exact ⟨He.glo_ok X G (d.fact 18 (f := .glo "ParseError") rfl), g, fd, "line", EX2.ok_x1 F g.t (g.no _ (List.mem_singleton.mpr rfl)) rfl (NdefX.nscope_by (by decide +kernel)) rfl rfl g.su g.self (EX2.any_free hB) rfl gS htop (by decide) (by decide),
    F.binds fun _ _ _ _ _ us hl => match us, hl with | [_, _], _ => rfl⟩
theorem one_InvalidValues (X : K.In h) (G : h.Ns mainGlobals mg) (d : He.SaysD fa fn K) (hb : EX2.sudB PP.main.file K "ClassError" xs = true) (hs : xs.map (fun d => EX2.suW K d.cls) = xs.map EX2.SuD.val) (hB : EX2.bltB K = true) (gS : mg "super" = none) : One PP w K mg base "InvalidValues" "given" := by
  obtain ⟨g, fd, F⟩ := EX2.sud_at (P := PP) hb hs 11 (d := sd "InvalidValues" "InvalidValues.__init__" 13 ["given"]) rfl
  exact ⟨He.glo_ok X G (d.fact 19 (f := .glo "InvalidValues") rfl), g, fd, "given", EX2.ok_x1 F g.t (g.no _ (List.mem_singleton.mpr rfl)) rfl (NdefX.nscope_by (by decide +kernel)) rfl rfl g.su g.self (EX2.any_free hB) rfl gS htop (by decide) (by decide),
    F.binds fun _ _ _ _ _ us hl => match us, hl with | [_, _], _ => rfl⟩
theorem one_InvalidChoices (X : K.In h) (G : h.Ns mainGlobals mg) (d : He.SaysD fa fn K) (hb : EX2.sudB PP.main.file K "ClassError" xs = true) (hs : xs.map (fun d => EX2.suW K d.cls) = xs.map EX2.SuD.val) (hB : EX2.bltB K = true) (gS : mg "super" = none) : One PP w K mg base "InvalidChoices" "given" := by
  obtain ⟨g, fd, F⟩ := EX2.sud_at (P := PP) hb hs 12 (d := sd "InvalidChoices" "InvalidChoices.__init__" 14 ["given"]) rfl
  exact ⟨He.glo_ok X G (d.fact 20 (f := .glo "InvalidChoices") rfl), g, fd, "given", EX2.ok_x1 F g.t (g.no _ (List.mem_singleton.mpr rfl)) rfl (NdefX.nscope_by (by decide +kernel)) rfl rfl g.su g.self (EX2.any_free hB) rfl gS htop (by decide) (by decide),
    F.binds fun _ _ _ _ _ us hl => match us, hl with | [_, _], _ => rfl⟩
theorem one_InvalidLimit (X : K.In h) (G : h.Ns mainGlobals mg) (d : He.SaysD fa fn K) (hb : EX2.sudB PP.main.file K "ClassError" xs = true) (hs : xs.map (fun d => EX2.suW K d.cls) = xs.map EX2.SuD.val) (hB : EX2.bltB K = true) (gS : mg "super" = none) : One PP w K mg base "InvalidLimit" "given" := by
  obtain ⟨g, fd, F⟩ := EX2.sud_at (P := PP) hb hs 13 (d := sd "InvalidLimit" "InvalidLimit.__init__" 15 ["given"]) rfl
  exact ⟨He.glo_ok X G (d.fact 21 (f := .glo "InvalidLimit") rfl), g, fd, "given", EX2.ok_x1 F g.t (g.no _ (List.mem_singleton.mpr rfl)) rfl (NdefX.nscope_by (by decide +kernel)) rfl rfl g.su g.self (EX2.any_free hB) rfl gS htop (by decide) (by decide),
    F.binds fun _ _ _ _ _ us hl => match us, hl with | [_, _], _ => rfl⟩
theorem one_InvalidOperand (X : K.In h) (G : h.Ns mainGlobals mg) (d : He.SaysD fa fn K) (hb : EX2.sudB PP.main.file K "ClassError" xs = true) (hs : xs.map (fun d => EX2.suW K d.cls) = xs.map EX2.SuD.val) (hB : EX2.bltB K = true) (gS : mg "super" = none) : One PP w K mg base "InvalidOperand" "given" := by
  obtain ⟨g, fd, F⟩ := EX2.sud_at (P := PP) hb hs 14 (d := sd "InvalidOperand" "InvalidOperand.__init__" 16 ["given"]) rfl
  exact ⟨He.glo_ok X G (d.fact 22 (f := .glo "InvalidOperand") rfl), g, fd, "given", EX2.ok_x1 F g.t (g.no _ (List.mem_singleton.mpr rfl)) rfl (NdefX.nscope_by (by decide +kernel)) rfl rfl g.su g.self (EX2.any_free hB) rfl gS htop (by decide) (by decide),
    F.binds fun _ _ _ _ _ us hl => match us, hl with | [_, _], _ => rfl⟩
theorem one_InvalidJournal (X : K.In h) (G : h.Ns mainGlobals mg) (d : He.SaysD fa fn K) (hb : EX2.sudB PP.main.file K "ClassError" xs = true) (hs : xs.map (fun d => EX2.suW K d.cls) = xs.map EX2.SuD.val) (hB : EX2.bltB K = true) (gS : mg "super" = none) : One PP w K mg base "InvalidJournal" "given" := by
  obtain ⟨g, fd, F⟩ := EX2.sud_at (P := PP) hb hs 15 (d := sd "InvalidJournal" "InvalidJournal.__init__" 17 ["given"]) rfl
  exact ⟨He.glo_ok X G (d.fact 23 (f := .glo "InvalidJournal") rfl), g, fd, "given", EX2.ok_x1 F g.t (g.no _ (List.mem_singleton.mpr rfl)) rfl (NdefX.nscope_by (by decide +kernel)) rfl rfl g.su g.self (EX2.any_free hB) rfl gS htop (by decide) (by decide),
    F.binds fun _ _ _ _ _ us hl => match us, hl with | [_, _], _ => rfl⟩
theorem one_InvalidCommand (X : K.In h) (G : h.Ns mainGlobals mg) (d : He.SaysD fa fn K) (hb : EX2.sudB PP.main.file K "ClassError" xs = true) (hs : xs.map (fun d => EX2.suW K d.cls) = xs.map EX2.SuD.val) (hB : EX2.bltB K = true) (gS : mg "super" = none) : One PP w K mg base "InvalidCommand" "given" := by
  obtain ⟨g, fd, F⟩ := EX2.sud_at (P := PP) hb hs 16 (d := sd "InvalidCommand" "InvalidCommand.__init__" 18 ["given"]) rfl
  exact ⟨He.glo_ok X G (d.fact 24 (f := .glo "InvalidCommand") rfl), g, fd, "given", EX2.ok_x1 F g.t (g.no _ (List.mem_singleton.mpr rfl)) rfl (NdefX.nscope_by (by decide +kernel)) rfl rfl g.su g.self (EX2.any_free hB) rfl gS htop (by decide) (by decide),
    F.binds fun _ _ _ _ _ us hl => match us, hl with | [_, _], _ => rfl⟩
theorem one_UnknownName (X : K.In h) (G : h.Ns mainGlobals mg) (d : He.SaysD fa fn K) (hb : EX2.sudB PP.main.file K "ClassError" xs = true) (hs : xs.map (fun d => EX2.suW K d.cls) = xs.map EX2.SuD.val) (hB : EX2.bltB K = true) (gS : mg "super" = none) : One PP w K mg base "UnknownName" "given" := by
  obtain ⟨g, fd, F⟩ := EX2.sud_at (P := PP) hb hs 17 (d := sd "UnknownName" "UnknownName.__init__" 19 ["given"]) rfl
  exact ⟨He.glo_ok X G (d.fact 25 (f := .glo "UnknownName") rfl), g, fd, "given", EX2.ok_x1 F g.t (g.no _ (List.mem_singleton.mpr rfl)) rfl (NdefX.nscope_by (by decide +kernel)) rfl rfl g.su g.self (EX2.any_free hB) rfl gS htop (by decide) (by decide),
    F.binds fun _ _ _ _ _ us hl => match us, hl with | [_, _], _ => rfl⟩
theorem one_NotLoaded (X : K.In h) (G : h.Ns mainGlobals mg) (d : He.SaysD fa fn K) (hb : EX2.sudB PP.main.file K "ClassError" xs = true) (hs : xs.map (fun d => EX2.suW K d.cls) = xs.map EX2.SuD.val) (hB : EX2.bltB K = true) (gS : mg "super" = none) : One PP w K mg base "NotLoaded" "given" := by
  obtain ⟨g, fd, F⟩ := EX2.sud_at (P := PP) hb hs 18 (d := sd "NotLoaded" "NotLoaded.__init__" 20 ["given"]) rfl
  exact ⟨He.glo_ok X G (d.fact 26 (f := .glo "NotLoaded") rfl), g, fd, "given", EX2.ok_x1 F g.t (g.no _ (List.mem_singleton.mpr rfl)) rfl (NdefX.nscope_by (by decide +kernel)) rfl rfl g.su g.self (EX2.any_free hB) rfl gS htop (by decide) (by decide),
    F.binds fun _ _ _ _ _ us hl => match us, hl with | [_, _], _ => rfl⟩
theorem excs (X : K.In h) (G : h.Ns mainGlobals mg) (d : He.SaysD fa fn K) (hb : EX2.sudB PP.main.file K "ClassError" xs = true) (hs : xs.map (fun d => EX2.suW K d.cls) = xs.map EX2.SuD.val) (hB : EX2.bltB K = true) (gS : mg "super" = none) (hn : ((("ClassError" : Str) :: clsNames).map (He.ga K)).Nodup) (hc : ((PySem.W.clsIn K (baseA K)).isSome && PySem.W.typeIn K (.ref (baseA K)) == some (.type "type")) = true) : Excs PP w K mg base := by
  refine ⟨fun p hp => ?_, two_UnknownClass X G d hb hs hB gS, two_NameFixed X G d hb hs hB gS, hn, hc⟩
  unfold order at hp
  simp only [List.mem_cons, List.not_mem_nil, or_false] at hp
  rcases hp with rfl | rfl | rfl | rfl | rfl | rfl | rfl | rfl | rfl | rfl | rfl | rfl | rfl | rfl | rfl | rfl | rfl
  · exact one_InvalidName X G d hb hs hB gS
  · exact one_InvalidMethod X G d hb hs hB gS
  · exact one_InvalidClass X G d hb hs hB gS
  · exact one_InvalidTable X G d hb hs hB gS
  · exact one_NameTaken X G d hb hs hB gS
  · exact one_UnknownLoader X G d hb hs hB gS
  · exact one_InvalidValues X G d hb hs hB gS
  · exact one_InvalidChoices X G d hb hs hB gS
  · exact one_InvalidLimit X G d hb hs hB gS
  · exact one_InvalidOperand X G d hb hs hB gS
  · exact one_InvalidJournal X G d hb hs hB gS
  · exact one_InvalidCommand X G d hb hs hB gS
  · exact one_UnknownName X G d hb hs hB gS
  · exact one_NotLoaded X G d hb hs hB gS
  · exact one_LimitExceeded X G d hb hs hB gS
  · exact one_Failing X G d hb hs hB gS
  · exact one_ParseError X G d hb hs hB gS
theorem facts (X : K.In h) (G : h.Ns mainGlobals mg) {f : Addr} (hfa : mg ("law" : Str) = some (.ref f)) (c : EX2.SaysY fa fn xs ex w K) :
    ∃ fd : FuncData, (∀ (s : Shared) (v : Value), BindsTo s fd ⟨[v], []⟩ [("_law_script", v)]) ∧ ∀ base : Heap, K.In base → base.Ns mainGlobals mg → EX2.FnOkG PP w K mg base 4 f fd ["_law_script"] (spLaw K) := by
  have d := c.t.d
  have hx := c.more
  unfold ex at hx
  simp only [Bool.and_eq_true, decide_eq_true_eq] at hx
  obtain ⟨hb, hn, hc1, hc2⟩ := hx
  have hB : EX2.bltB K = true := by
    have h2 := hb
    unfold EX2.sudB at h2
    rw [Bool.and_eq_true] at h2
    exact h2.1
  obtain ⟨fS, FS⟩ := d.def_ 0 (d := dfn "_law_source" 22) rfl
  obtain ⟨fD, FD⟩ := d.def_ 1 (d := dfn "_law_draw" 23) rfl
  obtain ⟨fA, FA⟩ := d.def_ 2 (d := dfn "_law_all" 24) rfl
  obtain ⟨fH, FH⟩ := d.def_ 3 (d := dfn "_law_held" 25) rfl
  obtain ⟨fO, FO⟩ := d.def_ 4 (d := dfn "_law_others_right" 26) rfl
  obtain ⟨fK, FK⟩ := d.def_ 5 (d := dfn "_law_kinds" 27) rfl
  obtain ⟨fd, F⟩ := d.def_ 6 (d := dfn "law" 28) rfl
  have e := hfa.symm.trans (He.glo_ok X G (d.fact 7 (f := .glo "law") rfl))
  cases e
  have gS := He.free_ok X G (d.fact 34 (f := .free "super") rfl)
  have T : Txt mg := ⟨He.free_ok X G (d.fact 27 (f := .free "isinstance") rfl), He.free_ok X G (d.fact 28 (f := .free "len") rfl), He.free_ok X G (d.fact 29 (f := .free "repr") rfl), He.free_ok X G (d.fact 30 (f := .free "max") rfl), He.free_ok X G (d.fact 31 (f := .free "min") rfl),
    He.free_ok X G (d.fact 32 (f := .free "int") rfl), He.free_ok X G (d.fact 33 (f := .free "range") rfl), gS, He.free_ok X G (d.fact 35 (f := .free "ValueError") rfl), He.free_ok X G (d.fact 36 (f := .free "LookupError") rfl), He.free_ok X G (d.fact 37 (f := .free "RuntimeError") rfl),
    He.free_ok X G (d.fact 38 (f := .free "OverflowError") rfl), He.free_ok X G (d.fact 39 (f := .free "TypeError") rfl)⟩
  have b := FunD.bindsA (ps := ["_law_script"]) F fun _ _ _ _ _ _ us hl => match us, hl with | [_], _ => rfl
  refine ⟨fd, fun s v => b s [v] rfl, fun base KB _ => ok_law F ⟨T, excs X G d hb c.sup hB gS hn (by rw [Bool.and_eq_true]; exact ⟨hc1, hc2⟩), He.glo_ok X G (d.fact 0 (f := .glo "ClassError") rfl), EX2.sysD_of hB KB,
    ⟨_, fS, He.glo_ok X G (d.fact 1 (f := .glo "_law_source") rfl), FS⟩, ⟨_, fD, He.glo_ok X G (d.fact 2 (f := .glo "_law_draw") rfl), FD⟩, ⟨_, fA, He.glo_ok X G (d.fact 3 (f := .glo "_law_all") rfl), FA⟩,
    ⟨_, fH, He.glo_ok X G (d.fact 4 (f := .glo "_law_held") rfl), FH⟩, ⟨_, fO, He.glo_ok X G (d.fact 5 (f := .glo "_law_others_right") rfl), FO⟩, ⟨_, fK, He.glo_ok X G (d.fact 6 (f := .glo "_law_kinds") rfl), FK⟩⟩⟩
end
end K30
open PySem PySem.W PySem.Calls PyProof.Rows
theorem PySem.Challenge.cw_lateclasses_k30_exceptions_holds : PySem.Challenge.rw_lateclasses_k30_exceptions.Holds := by
  w_on; o_law
  refine HandSHeadRun.head_any (r := OpenLaw.row K30.RW) (q := view (OpenLaw.row K30.RW).prog [28]) (H := K30.hk) (ob := K30.ob) (M := 12000) (loose := K30.loose) (d := HandSHeadRun.topDef (OpenLaw.row K30.RW).prog 28) (kwd := []) K30.ob_eq
    (by kernel_rfl) (fun s => by kernel_rfl) K30.run (by kernel_rfl) (by kernel_rfl) (by kernel_rfl) (by rfl) (by first | assumption | decide +kernel) (by decide +kernel) ⟨rfl, rfl, rfl, rfl, rfl, by decide +kernel⟩ ?hw ?hc
  case hw => w_witness2
  case hc =>
    refine EX2.walk_ofG (l := K30.RW) (n := 63) (k := 4) (x := "_law_script") rfl (by decide) (by kernel_rfl) ⟨rfl, by decide, by decide⟩ ?F
    intro w mg fa h Y G hmg0
    obtain ⟨K, KX, c⟩ := Y
    have hmg : mg ("law" : PySem.Str) = some (.ref fa) := by
      have e : (HandSHeadRun.topDef (OpenLaw.row K30.RW).prog 28).name = ("law" : PySem.Str) := by kernel_rfl
      rw [← e]
      exact hmg0
    obtain ⟨fd, hb, hF⟩ := K30.facts (w := w) KX G hmg c
    exact ⟨K, fd, K30.spLaw K, KX, hb, fun H a ns hl _ hS => ⟨a, ns, rfl, hS, hl, fun _ => rfl⟩, hF⟩
