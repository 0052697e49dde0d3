import PyProof.Rows.All
import HandS.ExcCtx
import HandS.ExcInit
import HandS.WordsExc
import Wide.All
import OpenK.AllK
import Wide.FinOn
import HandS.Call
import HandS.List
import HandS.TupAny
import HandS.ForMost
import HandS.ForExc
import HandS.Lambda
import HandS.HeadHook4
import KE.KDictKeyed
import HandS.CallSlots
import HandS.Property
import HandS.Flow
import HandS.Defaults
import HandS.Deep
import HandS.Wide
import HandS.Conv
import HandS.Iter
import HandS.Zip
import HandS.HeadHook1
import HandS.HeadHook2
import HandS.SortKw
import KE.SortKeyHeap
import KE.SortData
import KE.KLam
import KE.KSortKey
import HandS.IsInst
import HandS.Star
import HandS.Replace
import KE.KStateDown
import HandS.Ends
import HandS.Words
import HandS.Head0
import HandS.Head1
import HandS.Head2
import HandS.HeadEnd
import HandS.HeadWalk
import HandS.ReplaceLit
import HandS.TupMul
import PyProof.Rows.MatchSeqLen
import HandS.Style
import HandS.ExcField
import HandS.ExcIs
import HandS.SetFor
import KE.KExcIs
import KE.DataMinMax
import HandS.ReplaceDef
import KE.GoesRaise
import HandS.GenList
import PyProof.GenComp
import HandS.DictComp
import HandS.ListItems
import HandS.DeepEq
import HandS.SetKeys
import HandS.Small
import HandS.ClsMeth
import HandS.RaiseFrom
import HandS.SuiteRaise
import HandS.ExcInitHot
import HandS.CallLocal
import HandS.Nested
import KE.KDflt
import HandS.Codes
import KE.KDictSum
import PySem.Challenge.RW_watervalves_k02_check_faults
import PyProof.Rows.ReprOcc
import HandS.StrMore
import HandS.ReplaceList
set_option Elab.async false
set_option linter.all false
set_option maxRecDepth 100000
set_option maxHeartbeats 0
namespace L2N
open PySem PySem.Spec PyProof.Rows L2
theorem passLN {X : Cx} : Passes (L2N.CX X.prog X.w) X E0 := fun _ _ _ _ _ _ _ h => by
  obtain ⟨_, _, _, _, _, _, _, _, _, _, _, _, z⟩ := h
  exact z.elim
section
variable {X : Cx} {e : Expr} {es : List Expr} {ta : TA} {p pos : Pos}
theorem make_own {CX : CXT} {x : Str} {C fI : Addr} {k : Nat} {fd : FuncData} {ps : List Str} {sp : Sp} (T : OexC X.K C) (iC : PySem.W.findIn X.K (.ref C) "__init__" = some (some (.ref fI))) (tI : PySem.W.typeIn X.K (.ref fI) = some (.type "function"))
    (Fn : FnOk X.prog X.w X.K X.mg X.base CX k fI fd ps sp) (hr : Room (k + 1) X.A) (hb : Binds X.K fd ps []) (hx : Passes CX X (fun _ _ _ => False)) (hg : Gl X x) (hm : X.mg x = some (.ref C)) (ha : PA X (e :: es) ta)
    (hdb : (x == ("__debug__" : Str)) = false := by decide) (he : starEach (e :: es) X.env = (false, eval e X.env) :: starEach es X.env := by rfl) (hpl : (backTo pos (starEach es X.env)).any (·.1) = false := by rfl) :
    L2N.PMk X (.Call (.Name x p) (e :: es) [] pos) (tMkO C sp [] ta) := by
  intro pins s σ H Q I h
  obtain ⟨nm, q, N, bs, bm, sn, sub, ab, col, dd, k0, k1, k2, k3, k5, hC, hbm⟩ := T.cls
  refine wpAny_Call_Name_kw (ld_glob I hg hm ?_ hdb)
  refine PySem.W.callWith_K (h₀ := X.base) I.ok.mod.kin T.kC (thn (ha.run pos pins s σ H _ I h) fun us s1 ⟨vs, H1, I1, r1, hz, q1⟩ => ⟨I1.kIn, ?_⟩) he hpl
  show wpAny _ _ (call (.ref C) us) _ _ _
  obtain ⟨hp, g, dr, tk, os⟩ := s1
  let a := hp.objs.size + 1
  let hp2 := (hp.push (PySem.W.kdv_tup us)).push (PySem.HandSPX.excO C hp.objs.size)
  have hsz : hp.objs.size ≤ a := Nat.le_succ _
  have hn : H1 a = none := I1.hok.fresh hsz
  have hq := q1 a hn
  rw [List.append_nil] at hq
  have kk : ∀ b o, hp.get? b = some o → hp2.get? b = some o := fun b o z => Heap.get?_push_of_some _ (Heap.get?_push_of_some _ z)
  have hget : hp2.get? a = some (PySem.HandSPX.excO C hp.objs.size) := by
    show ((hp.push (PySem.W.kdv_tup us)).push (PySem.HandSPX.excO C hp.objs.size)).get? (hp.objs.size + 1) = _
    heap_get
  have I2 : Inv X pins σ (upd H1 a (exo a C none)) ⟨hp2, g, dr, tk, os⟩ := I1.laid (t' := tk) (a := a) (o := exo a C none) (h' := hp2) kk hsz (exo_ok hget)
  have r2 : Vals (V.ref a :: vs) (Value.ref a :: us) := .cons rfl r1
  have hl : (Value.ref a :: us ++ []).length = ps.length := by
    rw [List.append_nil]
    exact (r2.length.symm.trans (Fn.len _ _ _ _ hq))
  have hus : us.length ≤ sizeLine := by
    rw [← Paired.length r1, sizeLine_eq]
    omega
  have b2 := hb _ (Value.ref a :: us) I2.kIn hl
  rw [List.append_nil] at b2
  refine wpAny_call (PySem.HandSPX.call_own F.excBase_ValueError (fun Y => PySem.HandSPX.refsVE_contains Y bm hbm) (I1.kIn _ _ hC) (PySem.W.looks_findIn I1.kIn iC) (fun self => PySem.W.bind_fn I1.kIn self tI) hus
    (codeAny_mono (Fn.run _ X.stack _ _ ⟨Value.ref a :: us, []⟩ (Value.ref a :: us) _ _ (fun _ _ _ => False) (hr.make C us []) (I2.env0.make C us []) b2 r2 hq) fun r s' hq' => ?_))
  match r, hq' with
  | .error er, hq' => exact hx pins σ _ _ er s' I2 hq'
  | .ok .next, hq' => exact False.elim hq'
  | .ok .brk, hq' => exact False.elim hq'
  | .ok .cont, hq' => exact False.elim hq'
  | .ok (.ret u), hq' =>
    obtain ⟨v, H2, os2, bare2, un2, hok2, rv, ev, d, fs, ea, ed, hd1, q2⟩ := hq'
    subst ev
    obtain ⟨h2, g2, d2, t2, os'⟩ := s'
    obtain ⟨t0, G, J, kG, ge, hoe, na⟩ := mk_end0 (d2 := d2) (t2 := t2) I1 hsz kk un2 hok2 os2 bare2 ea ed hd1
    refine ⟨rv, a, _, _, ⟨G, g2, d2, t2, os'⟩, _, .ref C, some d, rfl, J, kG, ge, hoe, ⟨rfl, rfl, fun vs hv => ?_⟩, rfl, rfl, na, rfl, bare2, raises_own T.exC T.tyC, q2⟩
    cases hv
    rfl
end
end L2N
namespace Cl
open PySem L2
abbrev Takes (X : Cx) (W : WX) : Prop := L2N.Takes X W
theorem passAt {X : Cx} {W : WX} (tk : Takes X W) (σ : L2.St) : PassesAt (L2N.CX X.prog X.w) X σ (WE W σ) := L2N.passAt tk σ
end Cl
namespace L2
open PySem PySem.Spec PyProof.Rows
section
variable {X : Cx} {es : List Expr} {t : TA} {pos : Pos}
/-- a new tuple's description -/
theorem ObjOk.frzT {P : Program} {w : World} {H : Hp} {h : Heap} {xs : List V} {its : List Value} (hz : xs.length ≤ sizeLine) (r : Vals xs its) : ObjOk P w H (h.push { cls := .type "tuple", data := .seq its.toArray }) h.objs.size (.frz { cls := .type "tuple", data := .seq its.toArray } (.tup xs)) :=
  ⟨Heap.get?_push_size _ rfl, hz, its, r, IsTup.new _ _⟩
def tTupF (t : TA) : TE := fun σ H Q => t σ H fun xs H1 => xs.length ≤ sizeLine ∧ ∀ p o, H1 p = none → o.dict = none → Q (.ref p) (upd H1 p (.frz o (.tup xs)))
theorem pe_tupF {x1} (h : PA X es t) : PE X (.Tuple es x1 pos) (tTupF t) := by
  refine ⟨fun pins s σ H Q I hq => ?_⟩
  refine wpAny_Tuple_spliced (thn (h.run pos pins s σ H _ I hq) fun us s1 ⟨xs, H1, I1, r, z, q⟩ => ⟨by rw [← r.length]; exact z, ?_⟩)
  have hf : H1 s1.heap.objs.size = none := I1.hok.fresh (Nat.le_refl _)
  refine ⟨.ref s1.heap.objs.size, _, I1.laid (t' := s1.toks) (fun b u e => Heap.get?_push_of_some _ e) (Nat.le_refl _) (ObjOk.frzT z r), rfl, q _ _ hf rfl⟩
theorem call_tuple_ofF : CallR X (.type "tuple") (fun xs H Q => ∃ p ys, xs = [.ref p] ∧ ((SqL X.K H p ys ∧ ∀ l o, H l = none → o.dict = none → Q (.ref l) (upd H l (.frz o (.tup ys)))) ∨ (SqT X.K H p ys ∧ Q (.ref p) H))) := by
  intro pins s σ H xs us Q I r h
  obtain ⟨p, ys, rfl, h⟩ := h
  obtain ⟨u, rfl, rx⟩ := vals1 r
  cases rx
  rcases h with ⟨hq, q⟩ | ⟨hq, q⟩
  · obtain ⟨its, r', pl, hz⟩ := I.list hq
    have hlen := r'.length
    refine call_tuple_list pl.isList (fun h' kp => ?_) (by simp only [List.size_toArray] <;> omega)
    have I1 : Inv X pins σ H { s with heap := h' } := I.kept (t' := s.toks) kp
    have I2 := I1.laid (t' := s.toks) (h' := h'.push { cls := .type "tuple", data := .seq its.toArray }) (fun b o e => Heap.get?_push_of_some _ e) (Nat.le_refl _) (ObjOk.frzT hz r')
    exact ⟨.ref h'.objs.size, _, I2, rfl, q _ _ (I1.hok.fresh (Nat.le_refl _)) rfl⟩
  · obtain ⟨its, r', pl, hz⟩ := I.tuple hq
    exact call_tuple_same pl ⟨.ref p, H, I, rfl, q⟩
def rSlF (K : PySem.W.Frag) : V → Option Int → Option Int → Hp → VK → Prop := fun x lo hi H Q => ∃ a xs, x = .ref a ∧ SqT K H a xs ∧
  (HT.sIx xs.length 0 lo = 0 ∧ HT.sIx xs.length xs.length hi = xs.length → Q (.ref a) H) ∧ (¬ (HT.sIx xs.length 0 lo = 0 ∧ HT.sIx xs.length xs.length hi = xs.length) → ∀ p o, H p = none → o.dict = none → Q (.ref p) (upd H p (.frz o (.tup (cutV xs lo hi)))))
theorem sl_tupF : SlR X (rSlF X.K) := by
  intro pins s σ H x v vl vu lo hi sl Q I rx hs pl pu h
  obtain ⟨a, xs, rfl, hx, q1, q2⟩ := h
  by_cases hw : HT.sIx xs.length 0 lo = 0 ∧ HT.sIx xs.length xs.length hi = xs.length
  · cases rx
    obtain ⟨its, r, ht, hz⟩ := I.tuple hx
    have hlen : its.toArray.size = xs.length := by rw [List.size_toArray]; exact r.length.symm
    refine ⟨"tuple", _, PyProof.Rows.slot_tuple_getitem.lookup, ht.typeIs, ?_⟩
    exact getItem_tuple_whole ht hs pl pu (by rw [hlen]; exact hw) ⟨.ref a, H, I, rfl, q1 hw⟩
  · cases rx
    obtain ⟨its, r, ht, hz⟩ := I.tuple hx
    have hlen : its.toArray.size = xs.length := by rw [List.size_toArray]; exact r.length.symm
    refine ⟨"tuple", _, PyProof.Rows.slot_tuple_getitem.lookup, ht.typeIs, ?_⟩
    refine HT.getItem_tuple_cut ht hs pl pu (by rw [hlen]; exact hw) ?_ (by rw [hlen]; exact hz)
    rw [hlen]
    exact ⟨.ref s.heap.objs.size, _, I.laid (t' := s.toks) (fun b ob q => Heap.get?_push_of_some _ q) (Nat.le_refl _) (ObjOk.frzT (Nat.le_trans (cutV_length xs lo hi) hz) ((r.drop (HT.sIx xs.length 0 lo)).take (HT.sIx xs.length xs.length hi - HT.sIx xs.length 0 lo))), rfl, q2 hw _ _ (I.hok.fresh (Nat.le_refl _)) rfl⟩
def rCatF (K : PySem.W.Frag) : R2 := fun x y H Q => ∃ a b xs ys, x = .ref a ∧ y = .ref b ∧ SqT K H a xs ∧ SqT K H b ys ∧ xs.length + ys.length ≤ sizeLine ∧
  (xs = [] → Q (.ref b) H) ∧ (xs ≠ [] → ys = [] → Q (.ref a) H) ∧ (xs ≠ [] → ys ≠ [] → ∀ p o, H p = none → o.dict = none → Q (.ref p) (upd H p (.frz o (.tup (xs ++ ys)))))
theorem op_catF : OpR X (binaryOp .Add) (rCatF X.K) := by
  intro pins s σ H x y v u Q I rx ry h
  obtain ⟨a, b, xs, ys, rfl, rfl, ha, hb, hz, q0, q1, q2⟩ := h
  cases rx
  cases ry
  obtain ⟨its, r1, p1, _⟩ := I.tuple ha
  obtain ⟨its2, r2, p2, _⟩ := I.tuple hb
  by_cases hx : xs = []
  · subst hx
    cases r1
    exact cat_tup0 p1 p2 ⟨.ref b, H, I, rfl, q0 rfl⟩
  · refine HT.cat_tup p1 p2 (fun z => hx (r1.nil_iff.mp z)) (fun z => ⟨.ref a, H, I, rfl, q1 hx (r2.nil_iff.mp z)⟩) (fun z => ?_) (by rw [← r1.length, ← r2.length]; exact hz)
    exact ⟨.ref s.heap.objs.size, _, I.laid (t' := s.toks) (fun b ob q => Heap.get?_push_of_some _ q) (Nat.le_refl _) (ObjOk.frzT (by rw [List.length_append]; exact hz) (r1.append r2)), rfl, q2 hx (fun w => z (r2.nil_iff.mpr w)) _ _ (I.hok.fresh (Nat.le_refl _)) rfl⟩
end
end L2
namespace Cl
open PySem L2
/-- data that is never changed, by value -/
inductive D where
  | non | bl (b : Bool) | int (i : Int) | str (x : Str)
  | tup (l : List D) | lst (l : List D) | scr (l : List D)
  | ins (n : Str) (fs : List (Str × D))
  | dct (l : List (D × D))
  | vv (v : V)
/-- a value: data, or an object of the store by its number -/
inductive S where
  | val (d : D) | obj (k : Nat)
/-- an object of the store -/
inductive O where
  | lst (l : List S)
  | ins (n : Str) (fs : List (Str × S))
  | dct (l : List (D × S))
  | dcn (l : List (D × S))
  | tup (l : List S)
  | frz (d : D)
/-- an error: its class by name, its attributes -/
structure XD where
  n : Str
  fs : List (Str × D)
def keyD : Key → D
  | .inl i => .int i
  | .inr x => .str x
mutual
def nk : D → Option NestedKey
  | .int i => some (.num i)
  | .tup l => (nks l).map .tup
  | _ => none
def nks : List D → Option (List NestedKey)
  | [] => some []
  | d :: r => match nk d, nks r with
    | some k, some ks => some (k :: ks)
    | _, _ => none
end
def nkk (d : D) : Option NestedKey := match nk d with
  | some k => if k.depth ≤ 8 then some k else none
  | none => none
/-- what is said of a dict's one object: keys, their tuples, the values -/
def dnP (a : Addr) (kvs : List (NestedKey × Addr × V)) (h : Heap) : Prop := kvs.length ≤ sizeLine ∧ (a == sysModules) = false ∧ ∃ xs : List (NestedKey × Addr × Value),
  Paired (fun p q => p.1 = q.1 ∧ p.2.1 = q.2.1 ∧ RelV p.2.2 q.2.2) kvs xs ∧ (xs.map (·.1)).Nodup ∧ ∃ o es ep, h.get? a = some o ∧ o.ExactDict ∧ o.data = .dict es ep ∧ ∀ w : World, es.toList = xs.map fun x => ⟨x.1.hash w, .ref x.2.1, x.2.2⟩
abbrev DN (a : Addr) (kvs : List (NestedKey × Addr × V)) : HO := .ext (dnP a kvs)
@[simp] def isStr : D → Bool
  | .str _ => true
  | _ => false
/-- a tuple of texts, not empty -/
@[simp] def texts : List D → Bool
  | [] => false
  | d :: r => isStr d && r.all isStr
/-- a tuple on which no dict hangs -/
def NoD (K : PySem.W.Frag) (F : Hp) (a : Addr) : Prop := (∃ o u, F a = some (.frz o u) ∧ o.dict = none) ∨ ∃ o, K.lookup a = some o ∧ o.cls = .type "tuple" ∧ o.dict = none
theorem NoD.mono {K : PySem.W.Frag} {F F' : Hp} {a : Addr} (e : Same F F') (h : NoD K F a) : NoD K F' a := by
  rcases h with ⟨o, u, h1, h2⟩ | h
  · exact .inl ⟨o, u, e _ _ h1, h2⟩
  · exact .inr h
theorem NoD.of {K : PySem.W.Frag} {F : Hp} {a : Addr} {o : Obj} {u : HO} (h : o.dict = none) : NoD K (upd F a (.frz o u)) a := .inl ⟨o, u, upd_same, h⟩
theorem SqT.ofF {K : PySem.W.Frag} {F : Hp} {a : Addr} {o : Obj} {vs : List V} : SqT K (upd F a (.frz o (.tup vs))) a vs := .inl (.inr ⟨o, upd_same⟩)
section
variable (K : PySem.W.Frag) (mg : Str → Option Value) (F : Hp)
mutual
inductive Rep : V → D → Prop
  | non : Rep .non .non
  | bl (b : Bool) : Rep (.bl b) (.bl b)
  | int (i : Int) : Rep (.int i) (.int i)
  | str (x : Str) : Rep (.str x) (.str x)
  | tup {a : Addr} {vs : List V} {ds : List D} : SqT K F a vs → Reps vs ds → (texts ds = true → NoD K F a) → Rep (.ref a) (.tup ds)
  | lst {a : Addr} {vs : List V} {ds : List D} : F a = some (.lst vs) → Reps vs ds → Rep (.ref a) (.lst ds)
  | scr {a : Addr} {vs : List V} {ds : List D} : SqL K F a vs → Reps vs ds → Rep (.ref a) (.scr ds)
  | ins {a C dx : Addr} {n : Str} {fvs : List (Str × V)} {fs : List (Str × D)} : mg n = some (.ref C) → F a = some (.ins C dx fvs) → RepF fvs fs → Rep (.ref a) (.ins n fs)
  | dct {a : Addr} {kvs : List (Key × V)} {ds : List (D × D)} : F a = some (.dK kvs) → RepK kvs ds → Rep (.ref a) (.dct ds)
  | vv (v : V) : Rep v (.vv v)
inductive Reps : List V → List D → Prop
  | nil : Reps [] []
  | cons {v : V} {d : D} {vs : List V} {ds : List D} : Rep v d → Reps vs ds → Reps (v :: vs) (d :: ds)
inductive RepF : List (Str × V) → List (Str × D) → Prop
  | nil : RepF [] []
  | cons {f : Str} {v : V} {d : D} {vs : List (Str × V)} {ds : List (Str × D)} : Rep v d → RepF vs ds → RepF ((f, v) :: vs) ((f, d) :: ds)
inductive RepK : List (Key × V) → List (D × D) → Prop
  | nil : RepK [] []
  | cons {k : Key} {v : V} {d : D} {vs : List (Key × V)} {ds : List (D × D)} : Rep v d → RepK vs ds → RepK ((k, v) :: vs) ((keyD k, d) :: ds)
end
variable (rho : List Addr)
inductive RepS : V → S → Prop
  | val {v : V} {d : D} : Rep K mg F v d → RepS v (.val d)
  | obj {k : Nat} {a : Addr} : rho[k]? = some a → RepS (.ref a) (.obj k)
inductive RepSs : List V → List S → Prop
  | nil : RepSs [] []
  | cons {v : V} {d : S} {vs : List V} {ds : List S} : RepS K mg F rho v d → RepSs vs ds → RepSs (v :: vs) (d :: ds)
inductive RepSF : List (Str × V) → List (Str × S) → Prop
  | nil : RepSF [] []
  | cons {f : Str} {v : V} {d : S} {vs : List (Str × V)} {ds : List (Str × S)} : RepS K mg F rho v d → RepSF vs ds → RepSF ((f, v) :: vs) ((f, d) :: ds)
inductive RepSK : List (Key × V) → List (D × S) → Prop
  | nil : RepSK [] []
  | cons {k : Key} {v : V} {d : S} {vs : List (Key × V)} {ds : List (D × S)} : RepS K mg F rho v d → RepSK vs ds → RepSK ((k, v) :: vs) ((keyD k, d) :: ds)
inductive RepDN : List (NestedKey × Addr × V) → List (D × S) → Prop
  | nil : RepDN [] []
  | cons {k : NestedKey} {b : Addr} {v : V} {e : D} {d : S} {vs : List (NestedKey × Addr × V)} {ds : List (D × S)} : nkk e = some k → Rep K mg F (.ref b) e → RepS K mg F rho v d → RepDN vs ds → RepDN ((k, b, v) :: vs) ((e, d) :: ds)
end
section
variable {K : PySem.W.Frag} {mg : Str → Option Value} {F F' : Hp} {rho rho' : List Addr}
theorem SqT_mono {a : Addr} {xs : List V} (e : Same F F') (h : SqT K F a xs) : SqT K F' a xs := by
  rcases h with (h | ⟨o, h⟩) | h
  · exact .inl (.inl (e _ _ h))
  · exact .inl (.inr ⟨o, e _ _ h⟩)
  · exact .inr h
def Pre (r r' : List Addr) : Prop := ∀ (k : Nat) (a : Addr), r[k]? = some a → r'[k]? = some a
theorem Pre.refl (r : List Addr) : Pre r r := fun _ _ h => h
theorem Pre.trans {a b c : List Addr} (x : Pre a b) (y : Pre b c) : Pre a c := fun k z h => y k z (x k z h)
theorem Pre.app (r q : List Addr) : Pre r (r ++ q) := fun k a h => by
  rw [List.getElem?_append_left (List.getElem?_eq_some_iff.mp h).1]; exact h
mutual
theorem Rep.mono (e : Same F F') : ∀ {v : V} {d : D}, Rep K mg F v d → Rep K mg F' v d
  | _, _, .non => .non
  | _, _, .bl b => .bl b
  | _, _, .int b => .int b
  | _, _, .str b => .str b
  | _, _, .tup h r n => .tup (SqT_mono e h) (Reps.mono e r) fun z => (n z).mono e
  | _, _, .lst h r => .lst (e _ _ h) (Reps.mono e r)
  | _, _, .scr h r => .scr (e.seq h) (Reps.mono e r)
  | _, _, .ins h1 h2 r => .ins h1 (e _ _ h2) (RepF.mono e r)
  | _, _, .dct h r => .dct (e _ _ h) (RepK.mono e r)
  | _, _, .vv v => .vv v
theorem Reps.mono (e : Same F F') : ∀ {v : List V} {d : List D}, Reps K mg F v d → Reps K mg F' v d
  | _, _, .nil => .nil
  | _, _, .cons a b => .cons (Rep.mono e a) (Reps.mono e b)
theorem RepF.mono (e : Same F F') : ∀ {v : List (Str × V)} {d : List (Str × D)}, RepF K mg F v d → RepF K mg F' v d
  | _, _, .nil => .nil
  | _, _, .cons a b => .cons (Rep.mono e a) (RepF.mono e b)
theorem RepK.mono (e : Same F F') : ∀ {v : List (Key × V)} {d : List (D × D)}, RepK K mg F v d → RepK K mg F' v d
  | _, _, .nil => .nil
  | _, _, .cons a b => .cons (Rep.mono e a) (RepK.mono e b)
end
theorem RepS.mono (e : Same F F') (p : Pre rho rho') {v : V} {d : S} (h : RepS K mg F rho v d) : RepS K mg F' rho' v d := by
  cases h with
  | val r => exact .val (r.mono e)
  | obj q => exact .obj (p _ _ q)
theorem RepSs.mono (e : Same F F') (p : Pre rho rho') : ∀ {v : List V} {d : List S}, RepSs K mg F rho v d → RepSs K mg F' rho' v d
  | _, _, .nil => .nil
  | _, _, .cons a b => .cons (RepS.mono e p a) (RepSs.mono e p b)
theorem RepSF.mono (e : Same F F') (p : Pre rho rho') : ∀ {v : List (Str × V)} {d : List (Str × S)}, RepSF K mg F rho v d → RepSF K mg F' rho' v d
  | _, _, .nil => .nil
  | _, _, .cons a b => .cons (RepS.mono e p a) (RepSF.mono e p b)
theorem RepSK.mono (e : Same F F') (p : Pre rho rho') : ∀ {v : List (Key × V)} {d : List (D × S)}, RepSK K mg F rho v d → RepSK K mg F' rho' v d
  | _, _, .nil => .nil
  | _, _, .cons a b => .cons (RepS.mono e p a) (RepSK.mono e p b)
theorem RepDN.mono (e : Same F F') (p : Pre rho rho') : ∀ {v : List (NestedKey × Addr × V)} {d : List (D × S)}, RepDN K mg F rho v d → RepDN K mg F' rho' v d
  | _, _, .nil => .nil
  | _, _, .cons h a b c => .cons h (a.mono e) (RepS.mono e p b) (RepDN.mono e p c)
theorem Reps.length : ∀ {v : List V} {d : List D}, Reps K mg F v d → v.length = d.length
  | _, _, .nil => rfl
  | _, _, .cons _ b => by rw [List.length_cons, List.length_cons, Reps.length b]
theorem RepF.length : ∀ {v : List (Str × V)} {d : List (Str × D)}, RepF K mg F v d → v.length = d.length
  | _, _, .nil => rfl
  | _, _, .cons _ b => by rw [List.length_cons, List.length_cons, RepF.length b]
theorem RepSs.length : ∀ {v : List V} {d : List S}, RepSs K mg F rho v d → v.length = d.length
  | _, _, .nil => rfl
  | _, _, .cons _ b => by rw [List.length_cons, List.length_cons, RepSs.length b]
theorem RepSF.length : ∀ {v : List (Str × V)} {d : List (Str × S)}, RepSF K mg F rho v d → v.length = d.length
  | _, _, .nil => rfl
  | _, _, .cons _ b => by rw [List.length_cons, List.length_cons, RepSF.length b]
theorem Reps.get : ∀ {vs : List V} {ds : List D} {i : Nat} {d : D}, Reps K mg F vs ds → ds[i]? = some d → ∃ v, vs[i]? = some v ∧ Rep K mg F v d
  | _, _, _, _, .nil, e => by simp at e
  | _, _, 0, _, .cons r _, e => by simp at e; subst e; exact ⟨_, rfl, r⟩
  | _, _, i + 1, d, .cons _ t, e => by
    obtain ⟨v, h1, h2⟩ := Reps.get (i := i) (d := d) t (by simpa using e)
    exact ⟨v, by simpa using h1, h2⟩
theorem RepSs.get : ∀ {vs : List V} {ds : List S} {i : Nat} {d : S}, RepSs K mg F rho vs ds → ds[i]? = some d → ∃ v, vs[i]? = some v ∧ RepS K mg F rho v d
  | _, _, _, _, .nil, e => by simp at e
  | _, _, 0, _, .cons r _, e => by simp at e; subst e; exact ⟨_, rfl, r⟩
  | _, _, i + 1, d, .cons _ t, e => by
    obtain ⟨v, h1, h2⟩ := RepSs.get (i := i) (d := d) t (by simpa using e)
    exact ⟨v, by simpa using h1, h2⟩
theorem Reps.append : ∀ {xs ys : List V} {us ws : List D}, Reps K mg F xs us → Reps K mg F ys ws → Reps K mg F (xs ++ ys) (us ++ ws)
  | _, _, _, _, .nil, s => s
  | _, _, _, _, .cons r t, s => .cons r (Reps.append t s)
theorem RepSs.append : ∀ {xs ys : List V} {us ws : List S}, RepSs K mg F rho xs us → RepSs K mg F rho ys ws → RepSs K mg F rho (xs ++ ys) (us ++ ws)
  | _, _, _, _, .nil, s => s
  | _, _, _, _, .cons r t, s => .cons r (RepSs.append t s)
theorem RepSs.set {x : V} {u : S} (r : RepS K mg F rho x u) : ∀ {xs : List V} {us : List S} (i : Nat), RepSs K mg F rho xs us → RepSs K mg F rho (xs.set i x) (us.set i u)
  | _, _, _, .nil => .nil
  | _, _, 0, .cons _ t => .cons r t
  | _, _, i + 1, .cons q t => .cons q (RepSs.set r i t)
theorem RepSs.eraseIdx : ∀ {xs : List V} {us : List S} (i : Nat), RepSs K mg F rho xs us → RepSs K mg F rho (xs.eraseIdx i) (us.eraseIdx i)
  | _, _, _, .nil => .nil
  | _, _, 0, .cons _ t => t
  | _, _, i + 1, .cons q t => .cons q (RepSs.eraseIdx i t)
theorem Reps.take : ∀ {xs : List V} {us : List D} (n : Nat), Reps K mg F xs us → Reps K mg F (xs.take n) (us.take n)
  | _, _, 0, _ => .nil
  | _, _, _ + 1, .nil => .nil
  | _, _, n + 1, .cons r t => .cons r (Reps.take n t)
theorem Reps.drop : ∀ {xs : List V} {us : List D} (n : Nat), Reps K mg F xs us → Reps K mg F (xs.drop n) (us.drop n)
  | _, _, 0, r => r
  | _, _, _ + 1, .nil => .nil
  | _, _, n + 1, .cons _ t => Reps.drop n t
theorem RepSs.take : ∀ {xs : List V} {us : List S} (n : Nat), RepSs K mg F rho xs us → RepSs K mg F rho (xs.take n) (us.take n)
  | _, _, 0, _ => .nil
  | _, _, _ + 1, .nil => .nil
  | _, _, n + 1, .cons r t => .cons r (RepSs.take n t)
theorem RepSs.drop : ∀ {xs : List V} {us : List S} (n : Nat), RepSs K mg F rho xs us → RepSs K mg F rho (xs.drop n) (us.drop n)
  | _, _, 0, r => r
  | _, _, _ + 1, .nil => .nil
  | _, _, n + 1, .cons _ t => RepSs.drop n t
theorem Reps.vals : ∀ {xs : List V} {us : List D}, Reps K mg F xs us → RepSs K mg F rho xs (us.map .val)
  | _, _, .nil => .nil
  | _, _, .cons r t => .cons (.val r) (Reps.vals t)
/-- all are data -/
@[simp] def datas : List S → Option (List D)
  | [] => some []
  | .val d :: r => (datas r).map (d :: ·)
  | .obj _ :: _ => none
theorem RepSs.datas : ∀ {xs : List V} {us : List S} {ds : List D}, RepSs K mg F rho xs us → Cl.datas us = some ds → Reps K mg F xs ds
  | _, _, _, .nil, e => by cases e; exact .nil
  | _, _, _, .cons (.val r) t, e => by
    simp only [Cl.datas, Option.map_eq_some_iff] at e
    obtain ⟨l, e, rfl⟩ := e
    exact .cons r (RepSs.datas t e)
  | _, _, _, .cons (.obj r) t, e => by cases e
theorem datas_map (l : List D) : datas (l.map .val) = some l := by
  induction l with
  | nil => rfl
  | cons a r ih => simp only [List.map_cons, datas, ih, Option.map_some]
theorem RepF.lookup : ∀ {vs : List (Str × V)} {ds : List (Str × D)} {f : Str} {d : D}, RepF K mg F vs ds → ds.lookup f = some d → ∃ v, vs.lookup f = some v ∧ Rep K mg F v d
  | _, _, _, _, .nil, e => by simp at e
  | _, _, f, d, .cons (f := g) r t, e => by
    rw [List.lookup_cons] at e ⊢
    cases q : f == g with
    | true => rw [q] at e; cases e; exact ⟨_, rfl, r⟩
    | false => rw [q] at e; exact RepF.lookup t e
theorem RepF.lookup_none : ∀ {vs : List (Str × V)} {ds : List (Str × D)} {f : Str}, RepF K mg F vs ds → ds.lookup f = none → vs.lookup f = none
  | _, _, _, .nil, e => rfl
  | _, _, f, .cons (f := g) r t, e => by
    rw [List.lookup_cons] at e ⊢
    cases q : f == g with
    | true => rw [q] at e; cases e
    | false => rw [q] at e; exact RepF.lookup_none t e
theorem RepSF.lookup : ∀ {vs : List (Str × V)} {ds : List (Str × S)} {f : Str} {d : S}, RepSF K mg F rho vs ds → ds.lookup f = some d → ∃ v, vs.lookup f = some v ∧ RepS K mg F rho v d
  | _, _, _, _, .nil, e => by simp at e
  | _, _, f, d, .cons (f := g) r t, e => by
    rw [List.lookup_cons] at e ⊢
    cases q : f == g with
    | true => rw [q] at e; cases e; exact ⟨_, rfl, r⟩
    | false => rw [q] at e; exact RepSF.lookup t e
theorem RepSF.lookup_none : ∀ {vs : List (Str × V)} {ds : List (Str × S)} {f : Str}, RepSF K mg F rho vs ds → ds.lookup f = none → vs.lookup f = none
  | _, _, _, .nil, e => rfl
  | _, _, f, .cons (f := g) r t, e => by
    rw [List.lookup_cons] at e ⊢
    cases q : f == g with
    | true => rw [q] at e; cases e
    | false => rw [q] at e; exact RepSF.lookup_none t e
/-- an attribute stored -/
@[simp] def putD (f : Str) (d : S) : List (Str × S) → List (Str × S)
  | [] => [(f, d)]
  | (g, e) :: r => if g = f then (f, d) :: r else (g, e) :: putD f d r
end
section
variable (K : PySem.W.Frag) (mg : Str → Option Value) (F : Hp) (rho : List Addr) (H : Hp) (a : Addr)
def ORep : O → Prop
  | .lst ds => F a = none ∧ ∃ vs, H a = some (.lst vs) ∧ RepSs K mg F rho vs ds
  | .ins n fs => F a = none ∧ ∃ C dx fvs, mg n = some (.ref C) ∧ H a = some (.ins C dx fvs) ∧ RepSF K mg F rho fvs fs
  | .dct l => F a = none ∧ ∃ kvs, H a = some (.dK kvs) ∧ RepSK K mg F rho kvs l
  | .dcn l => F a = none ∧ ∃ kvs, H a = some (DN a kvs) ∧ RepDN K mg F rho kvs l
  | .tup ds => (∃ vs, SqT K F a vs ∧ RepSs K mg F rho vs ds) ∧ NoD K F a
  | .frz d => Rep K mg F (.ref a) d
end
/-- the defs that make lambdas, the lambdas' names -/
def lamDefs : List (He.Defn × Str) := [(("Parser", some "parse_plan"), "Parser.parse_plan.<locals>.<lambda>"), (("shifted", none), "shifted.<locals>.<lambda>"), (("counted", none), "counted.<locals>.<lambda>"), (("count_openings", none), "count_openings.<locals>.<lambda>"),
  (("count_lost", none), "count_lost.<locals>.<lambda>"), (("water", none), "water.<locals>.<lambda>"), (("law", none), "law.<locals>.<lambda>")]
def hdB (K : PySem.W.Frag) (p : He.Defn) : Bool := PySem.W.codeHdIn K (He.cT K p).1 (He.cT K p).2
def lamOk (K : PySem.W.Frag) : Bool := decide ((((lamDefs.filter fun p => hdB K p.1).map fun p => (He.cT K p.1).2)).Nodup)
def IsTab (K : PySem.W.Frag) (P : Addr) (q : Str) : Prop := lamOk K = true ∧ ∃ p ∈ lamDefs, hdB K p.1 = true ∧ P = (He.cT K p.1).2 ∧ q = p.2
def Okx : HO → Prop
  | .tbl _ => False
  | .ext φ => ∃ a kvs, φ = dnP a kvs
  | _ => True
def Bad (o : HO) : Prop := (∃ ps, o = .tbl ps) ∨ ∃ c q, o = LamX.CodeO c q
theorem Okx.no {o : HO} (h : Okx o) (b : Bad o) : False := by
  rcases b with ⟨ps, rfl⟩ | ⟨c, q, rfl⟩
  · exact h
  · obtain ⟨a, kvs, e⟩ := h
    let ob : Obj := { cls := .none, data := .fields #[.none, .str q 0] }
    let h0 : Heap := { objs := Array.replicate (c + 1) ob }
    have all : ∀ b o, h0.get? b = some o → o = ob := fun b o z => by
      have z : (match (Array.replicate (c + 1) ob)[b]? with | some ⟨_, _, .freed, _⟩ => none | o => o) = some o := z
      rw [Array.getElem?_replicate] at z
      split at z
      · cases z
      · split at z
        · cases z; rfl
        · cases z
    have hc : h0.get? c = some ob := by
      show (match (Array.replicate (c + 1) ob)[c]? with | some ⟨_, _, .freed, _⟩ => none | o => o) = some ob
      rw [Array.getElem?_replicate, if_pos (Nat.lt_succ_self c)]
    have k : dnP a kvs h0 := by
      rw [← e]
      exact ⟨ob, _, 0, hc, rfl, rfl⟩
    obtain ⟨_, _, xs, _, _, o, es, ep, h1, _, h3, _⟩ := k
    rw [all _ _ h1] at h3
    cases h3
def TabsOk (K : PySem.W.Frag) (B F H : Hp) : Prop := ∀ P q, IsTab K P q → B P = none ∧ F P = none ∧ LamX.TabS H P q
theorem tab_at {K : PySem.W.Frag} {B F H : Hp} {P : Addr} {q : Str} (t : TabsOk K B F H) (h : IsTab K P q) : ∃ ps, H P = some (.tbl ps) := by
  obtain ⟨_, _, ps, e, _⟩ := t P q h
  exact ⟨ps, e⟩
theorem TabsOk.mono {K : PySem.W.Frag} {B B' F F' H H' : Hp} (t : TabsOk K B F H) (e : ∀ b o, H b = some o → Bad o → H' b = some o)
    (hB : ∀ b o, H b = some o → Bad o → B b = none → B' b = none) (hF : ∀ b o, H b = some o → Bad o → F b = none → F' b = none) : TabsOk K B' F' H' := fun P q h => by
  obtain ⟨h1, h2, ps, h3, h4, h5⟩ := t P q h
  refine ⟨hB _ _ h3 (.inl ⟨ps, rfl⟩) h1, hF _ _ h3 (.inl ⟨ps, rfl⟩) h2, ps, e _ _ h3 (.inl ⟨ps, rfl⟩), h4, fun pos cv hc => ?_⟩
  obtain ⟨c, e1, e2⟩ := h5 pos cv hc
  exact ⟨c, e1, e _ _ e2 (.inr ⟨c, q, rfl⟩)⟩
/-- the store stands: B what others hold, F the part of the heap that is never changed, rho the objects' addresses -/
structure Core (K : PySem.W.Frag) (mg : Str → Option Value) (B F : Hp) (rho : List Addr) (st : List O) (H : Hp) : Prop where
  same : Same F H
  frame : Same B H
  apart : ∀ a, F a ≠ none → B a = none
  off : ∀ (k : Nat) (a : Addr), rho[k]? = some a → B a = none
  nd : rho.Nodup
  len : rho.length = st.length
  own : ∀ (k : Nat) (a : Addr) (o : O), rho[k]? = some a → st[k]? = some o → ORep K mg F rho H a o
  liv : ∀ (k : Nat) (a : Addr), rho[k]? = some a → ∃ u, H a = some u ∧ Okx u
  tabs : TabsOk K B F H
theorem Core.live {K : PySem.W.Frag} {mg : Str → Option Value} {B F : Hp} {rho : List Addr} {st : List O} {H : Hp} (c : Core K mg B F rho st H) (k : Nat) (a : Addr) (h : rho[k]? = some a) : H a ≠ none := by
  obtain ⟨u, e, _⟩ := c.liv k a h
  rw [e]; exact fun z => by cases z
theorem Core.noT {K : PySem.W.Frag} {mg : Str → Option Value} {B F : Hp} {rho : List Addr} {st : List O} {H : Hp} (c : Core K mg B F rho st H) {k : Nat} {a b : Addr} {o : HO} (h : rho[k]? = some a) (e : H b = some o) (n : Bad o) : b ≠ a := fun z => by
  obtain ⟨u, e2, n2⟩ := c.liv k a h
  rw [← z, e] at e2; cases e2; exact n2.no n
section
variable {K : PySem.W.Frag} {mg : Str → Option Value} {B F F' : Hp} {rho rho' : List Addr} {st : List O} {H H' : Hp} {a p : Addr} {o : O}
theorem same_upd {o : HO} (h : F p = none) : Same F (upd F p o) := fun b u e => by
  rw [upd_ne (fun q => by rw [q, h] at e; cases e)]; exact e
theorem same_upd1 {o : HO} (e : Same F H) (h : F p = none) : Same F (upd H p o) := fun b u q => by
  rw [upd_ne (fun z => by rw [z, h] at q; cases q)]; exact e _ _ q
theorem same_upd2 {o : HO} (e : Same F H) : Same (upd F p o) (upd H p o) := fun b u q => by
  by_cases z : b = p
  · subst z; rw [upd_same] at q ⊢; exact q
  · rw [upd_ne z] at q ⊢; exact e _ _ q
/-- an owned object under a grown frozen part, a changed heap that keeps it -/
theorem ORep.mono (e : Same F F') (q : Pre rho rho') (hF : F a = none → F' a = none) (hH : ∀ u, H a = some u → H' a = some u) (h : ORep K mg F rho H a o) : ORep K mg F' rho' H' a o := by
  cases o with
  | lst ds => obtain ⟨x, vs, y, z⟩ := h; exact ⟨hF x, vs, hH _ y, z.mono e q⟩
  | ins n fs => obtain ⟨x, C, dx, fvs, m, y, z⟩ := h; exact ⟨hF x, C, dx, fvs, m, hH _ y, z.mono e q⟩
  | dct l => obtain ⟨x, kvs, y, z⟩ := h; exact ⟨hF x, kvs, hH _ y, z.mono e q⟩
  | dcn l => obtain ⟨x, kvs, y, z⟩ := h; exact ⟨hF x, kvs, hH _ y, z.mono e q⟩
  | tup ds => obtain ⟨⟨vs, x, y⟩, z⟩ := h; exact ⟨⟨vs, SqT_mono e x, y.mono e q⟩, z.mono e⟩
  | frz d => exact Rep.mono e h
/-- something new is laid, never to be changed -/
theorem Core.alloc {u : HO} (c : Core K mg B F rho st H) (h : H p = none) : Core K mg B (upd F p u) rho st (upd H p u) := by
  have hp : F p = none := c.same.free h
  have hb : B p = none := c.frame.free h
  refine ⟨same_upd2 c.same, same_upd1 c.frame hb, fun b q => ?_, c.off, c.nd, c.len, fun k b o e1 e2 => ?_, fun k b e => ?_, c.tabs.mono (fun b o e _ => ?_) (fun _ _ _ _ z => z) fun b o e _ z => ?_⟩
  · by_cases z : b = p
    · rw [z]; exact hb
    · rw [upd_ne z] at q; exact c.apart b q
  · have nb : b ≠ p := fun z => c.live k b e1 (by rw [z]; exact h)
    exact (c.own k b o e1 e2).mono (same_upd hp) (Pre.refl _) (fun z => by rw [upd_ne nb]; exact z) (fun u z => by rw [upd_ne nb]; exact z)
  · have nb : b ≠ p := fun z => c.live k b e (by rw [z]; exact h)
    rw [upd_ne nb]; exact c.liv k b e
  · rw [upd_ne (ne_of_none e h)]; exact e
  · rw [upd_ne (ne_of_none e h)]; exact z
/-- a new object of the store -/
theorem Core.new {u : HO} (c : Core K mg B F rho st H) (h : H p = none) (ho : ORep K mg F (rho ++ [p]) (upd H p u) p o) (hu : Okx u := by first | exact True.intro | exact ⟨_, _, rfl⟩) : Core K mg B F (rho ++ [p]) (st ++ [o]) (upd H p u) := by
  have hp : F p = none := c.same.free h
  have hb : B p = none := c.frame.free h
  have np : ∀ (k : Nat) (b : Addr), rho[k]? = some b → b ≠ p := fun k b e z => c.live k b e (by rw [z]; exact h)
  have at_ : ∀ (k : Nat) (b : Addr), (rho ++ [p])[k]? = some b → (k < rho.length ∧ rho[k]? = some b) ∨ (k = rho.length ∧ b = p) := fun k b e => by
    by_cases hk : k < rho.length
    · rw [List.getElem?_append_left hk] at e; exact .inl ⟨hk, e⟩
    · have hk' : k = rho.length := by
        have := (List.getElem?_eq_some_iff.mp e).1
        rw [List.length_append] at this; simp at this; omega
      subst hk'
      rw [List.getElem?_append_right (Nat.le_refl _), Nat.sub_self] at e
      cases e
      exact .inr ⟨rfl, rfl⟩
  refine ⟨same_upd1 c.same hp, same_upd1 c.frame hb, c.apart, fun k b e => ?_, ?_, ?_, fun k b q e1 e2 => ?_, fun k b e => ?_, c.tabs.mono (fun b o e _ => by rw [upd_ne (ne_of_none e h)]; exact e) (fun _ _ _ _ z => z) fun _ _ _ _ z => z⟩
  · rcases at_ k b e with ⟨_, e⟩ | ⟨_, rfl⟩
    · exact c.off k b e
    · exact hb
  · refine List.nodup_append.mpr ⟨c.nd, by simp, fun x hx y hy => ?_⟩
    obtain ⟨k, hk⟩ := List.getElem?_of_mem hx
    have : y = p := by simpa using hy
    rw [this]; exact np k x hk
  · rw [List.length_append, List.length_append, c.len]; rfl
  · rcases at_ k b e1 with ⟨hk, e⟩ | ⟨rfl, rfl⟩
    · rw [List.getElem?_append_left (by rw [← c.len]; exact hk)] at e2
      have nb := np k b e
      exact (c.own k b q e e2).mono (Same.refl _) (Pre.app _ _) (fun z => z) (fun u z => by rw [upd_ne nb]; exact z)
    · rw [c.len, List.getElem?_append_right (Nat.le_refl _), Nat.sub_self] at e2
      cases e2
      exact ho
  · rcases at_ k b e with ⟨_, e⟩ | ⟨_, rfl⟩
    · rw [upd_ne (np k b e)]; exact c.liv k b e
    · exact ⟨u, upd_same, hu⟩
theorem get_inj {r : List Addr} (nd : r.Nodup) {i j : Nat} {x : Addr} (h1 : r[i]? = some x) (h2 : r[j]? = some x) : i = j := by
  obtain ⟨l1, e1⟩ := List.getElem?_eq_some_iff.mp h1
  exact (List.getElem?_inj l1 nd).mp (h1.trans h2.symm)
/-- an object of the store is written -/
theorem Core.write {k : Nat} {u : HO} (c : Core K mg B F rho st H) (hk : rho[k]? = some a) (hF : F a = none) (ho : ORep K mg F rho (upd H a u) a o) (hu : Okx u := by first | exact True.intro | exact ⟨_, _, rfl⟩) : Core K mg B F rho (st.set k o) (upd H a u) := by
  refine ⟨same_upd1 c.same hF, same_upd1 c.frame (c.off k a hk), c.apart, c.off, c.nd, by rw [List.length_set]; exact c.len, fun j b q e1 e2 => ?_, fun j b e => ?_, c.tabs.mono (fun b o e n => by rw [upd_ne (c.noT hk e n)]; exact e) (fun _ _ _ _ z => z) fun _ _ _ _ z => z⟩
  · by_cases hj : j = k
    · subst hj
      rw [hk] at e1; cases e1
      have hl : j < st.length := by rw [← c.len]; exact (List.getElem?_eq_some_iff.mp hk).1
      rw [List.getElem?_set_self hl] at e2; cases e2
      exact ho
    · rw [List.getElem?_set_ne (Ne.symm hj)] at e2
      have nb : b ≠ a := fun z => hj (get_inj c.nd e1 (z ▸ hk))
      exact (c.own j b q e1 e2).mono (Same.refl _) (Pre.refl _) (fun z => z) (fun u z => by rw [upd_ne nb]; exact z)
  · by_cases nb : b = a
    · subst nb; exact ⟨u, upd_same, hu⟩
    · rw [upd_ne nb]; exact c.liv j b e
/-- an object of the store is never changed again -/
theorem Core.freeze {k : Nat} {d : D} {u : HO} (c : Core K mg B F rho st H) (hk : rho[k]? = some a) (hF : F a = none) (hH : H a = some u) (r : Rep K mg (upd F a u) (.ref a) d) :
    Core K mg B (upd F a u) rho (st.set k (.frz d)) H := by
  refine ⟨fun b q e => ?_, c.frame, fun b q => ?_, c.off, c.nd, by rw [List.length_set]; exact c.len, fun j b q e1 e2 => ?_, c.liv, c.tabs.mono (fun _ _ e _ => e) (fun _ _ _ _ z => z) fun b o e n z => by rw [upd_ne (c.noT hk e n)]; exact z⟩
  · by_cases z : b = a
    · subst z; rw [upd_same] at e; cases e; exact hH
    · rw [upd_ne z] at e; exact c.same b q e
  · by_cases z : b = a
    · rw [z]; exact c.off k a hk
    · rw [upd_ne z] at q; exact c.apart b q
  · by_cases hj : j = k
    · subst hj
      rw [hk] at e1; cases e1
      have hl : j < st.length := by rw [← c.len]; exact (List.getElem?_eq_some_iff.mp hk).1
      rw [List.getElem?_set_self hl] at e2; cases e2
      exact r
    · rw [List.getElem?_set_ne (Ne.symm hj)] at e2
      have nb : b ≠ a := fun z => hj (get_inj c.nd e1 (z ▸ hk))
      exact (c.own j b q e1 e2).mono (same_upd hF) (Pre.refl _) (fun z => by rw [upd_ne nb]; exact z) (fun u z => z)
end
abbrev M (α : Type) := List O → Option (Except XD α × List O)
@[simp] def M.pure {α : Type} (a : α) : M α := fun st => some (.ok a, st)
@[simp] def M.bind {α β : Type} (m : M α) (k : α → M β) : M β := fun st => match m st with
  | none => none
  | some (.error x, st1) => some (.error x, st1)
  | some (.ok a, st1) => k a st1
@[simp] def M.ofO {α : Type} (o : Option α) : M α := fun st => o.map fun a => (.ok a, st)
@[simp] def M.stuck {α : Type} : M α := fun _ => none
abbrev Sl := List (Option S)
abbrev ME := Sl → M S
abbrev MT := Sl → M Bool
abbrev MA := Sl → M (List S)
inductive Fl where
  | nx | bk | ct | rt (d : S) | xc (x : XD)
abbrev MS := Sl → List O → Option (Fl × Sl × List O)
section
variable (K : PySem.W.Frag) (mg : Str → Option Value) (F : Hp) (rho : List Addr)
structure Slots (s : St) (sl : Sl) : Prop where
  len : s.length = sl.length
  get : ∀ (i : Nat) (d : S), sl[i]? = some (some d) → ∃ v, s[i]? = some (some v) ∧ RepS K mg F rho v d
def XRep (cls : Value) (dd : Option Addr) (x : XD) : Prop := ∃ C, mg x.n = some (.ref C) ∧ cls = .ref C ∧
  match x.fs with
  | [] => dd = none
  | fs => ∃ a fvs, dd = some a ∧ F a = some (.xd fvs) ∧ RepF K mg F fvs fs
end
section
variable (K : PySem.W.Frag) (mg : Str → Option Value) (B : Hp)
/-- what a run's end must bring -/
def Post {α : Type} (R : Hp → List Addr → Hp → α → Prop) (W : Value → Option Addr → Hp → Prop) (F : Hp) (rho : List Addr) (m : Option (Except XD α × List O)) : Prop :=
  match m with
  | none => False
  | some (.ok a, st') => ∀ F' rho' H', Same F F' → Pre rho rho' → Core K mg B F' rho' st' H' → R F' rho' H' a
  | some (.error x, st') => ∀ F' rho' H', Same F F' → Pre rho rho' → Core K mg B F' rho' st' H' → ∀ cls dd, XRep K mg F' cls dd x → W cls dd H'
def tE (W : WX) (f : ME) : TE := fun s H Q => ∃ F rho sl st, Core K mg B F rho st H ∧ Slots K mg F rho s sl ∧ Post K mg B (fun F' rho' H' d => ∀ v, RepS K mg F' rho' v d → Q v H') (fun c d H' => W c d s H') F rho (f sl st)
def tT (W : WX) (f : MT) : TT := fun s H Q => ∃ F rho sl st, Core K mg B F rho st H ∧ Slots K mg F rho s sl ∧ Post K mg B (fun F' rho' H' b => Q b H') (fun c d H' => W c d s H') F rho (f sl st)
def tA (W : WX) (f : MA) : TA := fun s H Q => ∃ F rho sl st, Core K mg B F rho st H ∧ Slots K mg F rho s sl ∧ Post K mg B (fun F' rho' H' ds => ∀ vs, RepSs K mg F' rho' vs ds → Q vs H') (fun c d H' => W c d s H') F rho (f sl st)
def PostS (W : WX) (N : Ends) (F : Hp) (rho : List Addr) (m : Option (Fl × Sl × List O)) : Prop :=
  match m with
  | none => False
  | some (fl, sl', st') => ∀ F' rho' H' s', Same F F' → Pre rho rho' → Core K mg B F' rho' st' H' → Slots K mg F' rho' s' sl' →
    match fl with
    | .nx => N.nx s' H'
    | .bk => N.bk s' H'
    | .ct => N.ct s' H'
    | .rt d => ∀ v, RepS K mg F' rho' v d → N.rt v H'
    | .xc x => ∀ cls dd, XRep K mg F' cls dd x → W cls dd s' H'
def tS (W : WX) (f : MS) : TS := fun N s H => ∃ F rho sl st, Core K mg B F rho st H ∧ Slots K mg F rho s sl ∧ PostS K mg B W N F rho (f sl st)
end
section
variable {K : PySem.W.Frag} {mg : Str → Option Value} {B F F' : Hp} {rho rho' : List Addr}
theorem Slots.mono {s : St} {sl : Sl} (e : Same F F') (p : Pre rho rho') (h : Slots K mg F rho s sl) : Slots K mg F' rho' s sl :=
  ⟨h.len, fun i d q => let ⟨v, x, y⟩ := h.get i d q; ⟨v, x, y.mono e p⟩⟩
theorem Slots.set {s : St} {sl : Sl} {v : V} {d : S} (h : Slots K mg F rho s sl) (r : RepS K mg F rho v d) (i : Nat) : Slots K mg F rho (s.set i (some v)) (sl.set i (some d)) := by
  refine ⟨by simp [h.len], fun j e q => ?_⟩
  by_cases hj : j = i
  · subst hj
    by_cases hl : j < sl.length
    · rw [List.getElem?_set_self hl] at q; cases q
      exact ⟨v, List.getElem?_set_self (by rw [h.len]; exact hl), r⟩
    · rw [List.getElem?_eq_none (by simpa using hl)] at q; cases q
  · rw [List.getElem?_set_ne (Ne.symm hj)] at q
    rw [List.getElem?_set_ne (Ne.symm hj)]
    exact h.get j e q
theorem Post.mono {α : Type} {R R' : Hp → List Addr → Hp → α → Prop} {W W' : Value → Option Addr → Hp → Prop} {m : Option (Except XD α × List O)} (h : Post K mg B R W F rho m) (hs : Same F F') (hp : Pre rho rho')
    (hR : ∀ F'' rho'' H'' a, Same F' F'' → Pre rho' rho'' → R F'' rho'' H'' a → R' F'' rho'' H'' a) (hW : ∀ c d H, W c d H → W' c d H) : Post K mg B R' W' F' rho' m := by
  match m, h with
  | some (.ok a, st'), h => exact fun F1 r1 H1 e p c => hR _ _ _ _ e p (h F1 r1 H1 (hs.trans e) (hp.trans p) c)
  | some (.error x, st'), h => exact fun F1 r1 H1 e p c cls dd x => hW _ _ _ (h F1 r1 H1 (hs.trans e) (hp.trans p) c cls dd x)
/-- one run behind another -/
theorem Post.bind {α β : Type} {R : Hp → List Addr → Hp → β → Prop} {W : Value → Option Addr → Hp → Prop} {m : M α} {k : α → M β} {st : List O} (h : Post K mg B R W F rho (M.bind m k st)) :
    Post K mg B (fun F' rho' H' a => ∃ st', Core K mg B F' rho' st' H' ∧ Same F F' ∧ Pre rho rho' ∧ Post K mg B R W F' rho' (k a st')) W F rho (m st) := by
  unfold M.bind at h
  match q : m st with
  | none => rw [q] at h; exact h
  | some (.error x, st1) => rw [q] at h; exact h
  | some (.ok a, st1) =>
    rw [q] at h
    exact fun F1 r1 H1 e p c => ⟨st1, c, e, p, h.mono e p (fun _ _ _ _ _ _ z => z) (fun _ _ _ z => z)⟩
/-- a run that is through -/
theorem Post.done {α : Type} {R : Hp → List Addr → Hp → α → Prop} {W : Value → Option Addr → Hp → Prop} {a : α} {st : List O} {H : Hp} (h : Post K mg B R W F rho (some (.ok a, st))) (c : Core K mg B F rho st H) : R F rho H a := h F rho H (Same.refl _) (Pre.refl _) c
end
end Cl
namespace Cl
open PySem L2
section
variable {X : Cx} {e : Expr}
theorem PEimp {t t' : TE} (h : PE X e t) (i : ∀ s H Q, t' s H Q → t s H Q) : PE X e t' := ⟨fun pins s σ H Q I q => h.run pins s σ H Q I (i _ _ _ q)⟩
theorem PTimp {t t' : TT} (h : PT X e t) (i : ∀ s H Q, t' s H Q → t s H Q) : PT X e t' := ⟨fun pins s σ H Q I q => h.run pins s σ H Q I (i _ _ _ q)⟩
theorem PWimp {t t' : TT} (h : PW X e t) (i : ∀ s H Q, t' s H Q → t s H Q) : PW X e t' := ⟨fun w pins s σ H Q I q => h.run w pins s σ H Q I (i _ _ _ q)⟩
theorem PAimp {es : List Expr} {t t' : TA} (h : PA X es t) (i : ∀ s H Q, t' s H Q → t s H Q) : PA X es t' := ⟨fun pos pins s σ H Q I q => h.run pos pins s σ H Q I (i _ _ _ q)⟩
theorem PSimp {st : Stmt} {t t' : TS} (h : PS X st t) (i : ∀ s H Q, t' s H Q → t s H Q) : PS X st t' := ⟨fun pins s σ H Q I q => h.run pins s σ H Q I (i _ _ _ q)⟩
theorem PSsimp {st : List Stmt} {t t' : TS} (h : PSs X st t) (i : ∀ s H Q, t' s H Q → t s H Q) : PSs X st t' := ⟨fun pins s σ H Q I q => h.run pins s σ H Q I (i _ _ _ q)⟩
end
abbrev QE (X : Cx) (B : Hp) (W : WX) (e : Expr) (f : ME) : Prop := PE X e (tE X.K X.mg B W f)
abbrev QT (X : Cx) (B : Hp) (W : WX) (e : Expr) (f : MT) : Prop := PT X e (tT X.K X.mg B W f)
abbrev QW (X : Cx) (B : Hp) (W : WX) (e : Expr) (f : MT) : Prop := PW X e (tT X.K X.mg B W f)
abbrev QA (X : Cx) (B : Hp) (W : WX) (es : List Expr) (f : MA) : Prop := PA X es (tA X.K X.mg B W f)
abbrev QS (X : Cx) (B : Hp) (W : WX) (st : Stmt) (f : MS) : Prop := PS X st (tS X.K X.mg B W f)
abbrev QSs (X : Cx) (B : Hp) (W : WX) (st : List Stmt) (f : MS) : Prop := PSs X st (tS X.K X.mg B W f)
@[simp] def rsvS : S → List O → S
  | .obj k, st => match st[k]? with
    | some (.frz d) => .val d
    | _ => .obj k
  | d, _ => d
/-- a list's items -/
@[simp] def lstOf : S → List O → Option (List S)
  | .val (.lst l), _ => some (l.map .val)
  | .obj k, st => match st[k]? with
    | some (.lst l) => some l
    | _ => none
  | _, _ => none
section
variable {K : PySem.W.Frag} {mg : Str → Option Value} {B F : Hp} {rho : List Addr} {st : List O} {H : Hp} {v : V} {d : S}
theorem rsv_ok (c : Core K mg B F rho st H) (r : RepS K mg F rho v d) : RepS K mg F rho v (rsvS d st) := by
  cases r with
  | @obj k a h =>
    show RepS K mg F rho _ (match st[k]? with | some (.frz d) => .val d | _ => .obj k)
    match q : st[k]? with
    | some (.frz d) => exact .val (c.own k a _ h q)
    | some (.lst _) => exact .obj h
    | some (.ins _ _) => exact .obj h
    | some (.dct _) => exact .obj h
    | some (.dcn _) => exact .obj h
    | some (.tup _) => exact .obj h
    | none => exact .obj h
  | val r => exact .val r
/-- a list, of the frozen part or of the store -/
theorem lst_at {ds : List S} (c : Core K mg B F rho st H) (r : RepS K mg F rho v d) (h : lstOf d st = some ds) : ∃ a vs, v = .ref a ∧ H a = some (.lst vs) ∧ RepSs K mg F rho vs ds := by
  cases r with
  | @obj k a q =>
    have h' : (match st[k]? with | some (.lst l) => some l | _ => none) = some ds := h
    match e : st[k]? with
    | some (.lst l) =>
      rw [e] at h'; cases h'
      obtain ⟨_, vs, x, y⟩ := c.own k a _ q e
      exact ⟨a, vs, rfl, x, y⟩
    | some (.frz _) => rw [e] at h'; cases h'
    | some (.ins _ _) => rw [e] at h'; cases h'
    | some (.dct _) => rw [e] at h'; cases h'
    | some (.dcn _) => rw [e] at h'; cases h'
    | some (.tup _) => rw [e] at h'; cases h'
    | none => rw [e] at h'; cases h'
  | val r =>
    cases r with
    | lst a b => cases h; exact ⟨_, _, rfl, c.same _ _ a, b.vals⟩
    | _ => cases h
/-- a list or a tuple to be read -/
@[simp] def seqOf : S → List O → Option (List S)
  | .val (.tup l), _ => some (l.map .val)
  | .val (.scr l), _ => some (l.map .val)
  | d, st => lstOf d st
theorem seq_at {ds : List S} (c : Core K mg B F rho st H) (r : RepS K mg F rho v d) (h : seqOf d st = some ds) : ∃ a vs, v = .ref a ∧ (SqL K H a vs ∨ SqT K H a vs) ∧ RepSs K mg F rho vs ds := by
  cases r with
  | val r =>
    cases r with
    | tup a b n => cases h; exact ⟨_, _, rfl, .inr (SqT_mono c.same a), b.vals⟩
    | scr a b => cases h; exact ⟨_, _, rfl, .inl (c.same.seq a), b.vals⟩
    | lst a b => cases h; exact ⟨_, _, rfl, .inl (SqL.of (c.same _ _ a)), b.vals⟩
    | _ => cases h
  | @obj k a q =>
    obtain ⟨a, vs, e, x, y⟩ := lst_at (d := .obj k) c (.obj q) (show lstOf (.obj k) st = some ds from h)
    exact ⟨a, vs, e, .inl (SqL.of x), y⟩
/-- a value as data: what may be changed is frozen -/
@[simp] def toD : S → M D
  | .val d => M.pure d
  | .obj k => fun st => match st[k]? with
    | some (.frz d) => some (.ok d, st)
    | some (.lst l) => (datas l).map fun ds => (.ok (.lst ds), st.set k (.frz (.lst ds)))
    | _ => none
theorem toD_ok {R : Hp → List Addr → Hp → D → Prop} {W : Value → Option Addr → Hp → Prop} (c : Core K mg B F rho st H) (r : RepS K mg F rho v d) (h : Post K mg B R W F rho (toD d st)) :
    ∃ F' st' d', Same F F' ∧ Core K mg B F' rho st' H ∧ Rep K mg F' v d' ∧ R F' rho H d' ∧ toD d st = some (.ok d', st') := by
  cases r with
  | val r => exact ⟨F, st, _, Same.refl _, c, r, h.done c, rfl⟩
  | @obj k a q =>
    match e : st[k]? with
    | some (.frz d) =>
      simp only [toD, e] at h ⊢
      exact ⟨F, st, d, Same.refl _, c, c.own k a _ q e, h.done c, rfl⟩
    | some (.lst l) =>
      match e2 : datas l with
      | some ds =>
        simp only [toD, e, e2, Option.map_some] at h ⊢
        obtain ⟨hF, vs, hH, rs⟩ := c.own k a _ q e
        have r' : Rep K mg (upd F a (.lst vs)) (.ref a) (.lst ds) := .lst upd_same ((rs.datas e2).mono (same_upd hF))
        have c' := c.freeze q hF hH r'
        exact ⟨_, _, _, same_upd hF, c', r', h _ _ _ (same_upd hF) (Pre.refl _) c', rfl⟩
      | none => simp only [toD, e, e2] at h; exact h.elim
    | some (.ins _ _) => simp only [toD, e] at h; exact h.elim
    | some (.dct _) => simp only [toD, e] at h; exact h.elim
    | some (.dcn _) => simp only [toD, e] at h; exact h.elim
    | some (.tup _) => simp only [toD, e] at h; exact h.elim
    | none => simp only [toD, e] at h; exact h.elim
@[simp] def toDs : List S → M (List D)
  | [] => M.pure []
  | d :: r => (toD d).bind fun x => (toDs r).bind fun xs => M.pure (x :: xs)
theorem toDs_ok {R : Hp → List Addr → Hp → List D → Prop} {W : Value → Option Addr → Hp → Prop} : ∀ {F : Hp} {st : List O} {vs : List V} {ds : List S}, Core K mg B F rho st H → RepSs K mg F rho vs ds → Post K mg B R W F rho (toDs ds st) →
    ∃ F' st' ds', Same F F' ∧ Core K mg B F' rho st' H ∧ Reps K mg F' vs ds' ∧ R F' rho H ds'
  | F, st, _, _, c, .nil, h => ⟨F, st, [], Same.refl _, c, .nil, h.done c⟩
  | F, st, _, _, c, .cons r t, h => by
    obtain ⟨F1, _, x, e1, _, rx, ⟨st1, c1, _, _, h2⟩, _⟩ := toD_ok c r h.bind
    obtain ⟨F2, st2, xs, e2, c2, rs, h3⟩ := toDs_ok c1 (t.mono e1 (Pre.refl _)) h2.bind
    obtain ⟨st3, c3, _, _, h3⟩ := h3
    exact ⟨F2, st3, x :: xs, e1.trans e2, c3, .cons (rx.mono e2) rs, h3.done c3⟩
end
@[simp] def rsv (d : S) : M S := fun st => some (.ok (rsvS d st), st)
@[simp] def eVar (i : Nat) : ME := fun sl => match sl[i]? with
  | some (some d) => rsv d
  | _ => M.stuck
@[simp] def eC (d : D) : ME := fun _ => M.pure (.val d)
section
variable {X : Cx} {B : Hp} {W : WX} {pos : Pos}
theorem qe_var (i : Nat) {x : Str} (hN : X.N[i]? = some x := by rfl) (hv : Vis X.env.scope x := by first | exact Or.inl rfl | exact Or.inr (Or.inl rfl) | exact Or.inr (Or.inr rfl)) (hd : (x == ("__debug__" : Str)) = false := by decide)
    (hcd : (x == ("__classdict__" : Str)) = false := by decide) : QE X B W (.Name x pos) (eVar i) := by
  refine PEimp (pe_var hN hv hd hcd) fun s H Q h => ?_
  obtain ⟨F, rho, sl, st, c, S, h⟩ := h
  unfold eVar at h
  match e : sl[i]? with
  | some (some d) =>
    rw [e] at h
    obtain ⟨v, hv, r⟩ := S.get i d e
    exact ⟨v, hv, h F rho H (Same.refl _) (Pre.refl _) c v (rsv_ok c r)⟩
  | some none => rw [e] at h; exact h.elim
  | none => rw [e] at h; exact h.elim
/-- a reading that hands on a value -/
theorem qe_const {d : D} {v : V} (h : PE X e (tC v)) (hr : ∀ F, Rep X.K X.mg F v d) : QE X B W e (eC d) :=
  PEimp h fun s H Q ⟨F, rho, sl, st, c, S, h⟩ => h F rho H (Same.refl _) (Pre.refl _) c v (.val (hr _))
theorem qe_int {i j} : QE X B W (.Constant (.int i) j pos) (eC (.int i)) := qe_const pe_int fun _ => .int i
theorem qe_bl {b j} : QE X B W (.Constant (.bool b) j pos) (eC (.bl b)) := qe_const pe_bl fun _ => .bl b
theorem qe_non {j} : QE X B W (.Constant .none j pos) (eC .non) := qe_const pe_non fun _ => .non
theorem qe_str {x j} : QE X B W (.Constant (.str x) j pos) (eC (.str x)) := qe_const pe_str fun _ => .str x
/-- a module's name -/
theorem qe_glob {x : Str} {v : V} {u : Value} {d : D} (hm : X.mg x = some u) (r : RelV v u) (hr : ∀ F, Rep X.K X.mg F v d) (hg : Gl X x := by rfl) (hd : (x == ("__debug__" : Str)) = false := by decide) : QE X B W (.Name x pos) (eC d) :=
  qe_const (pe_glob hg hm r hd) hr
end
def OpS (K : PySem.W.Frag) (mg : Str → Option Value) (r : R2) (g : S → S → M S) : Prop :=
  ∀ (W : Value → Option Addr → Hp → Prop) (B F : Hp) (rho : List Addr) (st : List O) (H : Hp) (x y : V) (dx dy : S) (Q : VK), Core K mg B F rho st H → RepS K mg F rho x dx → RepS K mg F rho y dy →
    Post K mg B (fun F' rho' H' d => ∀ v, RepS K mg F' rho' v d → Q v H') W F rho (g dx dy st) → r x y H Q
@[simp] def eBin (g : S → S → M S) (a b : ME) : ME := fun sl => (a sl).bind fun x => (b sl).bind fun y => g x y
section
variable {K : PySem.W.Frag} {mg : Str → Option Value} {B : Hp}
/-- two expressions, one behind the other -/
theorem two {W : WX} {fa fb : ME} {g : S → S → M S} {s : St} {H : Hp} {Q : VK} {R : V → V → Hp → Prop} (h : tE K mg B W (eBin g fa fb) s H Q)
    (hR : ∀ F rho st H x y dx dy, Core K mg B F rho st H → RepS K mg F rho x dx → RepS K mg F rho y dy → Post K mg B (fun F' rho' H' d => ∀ v, RepS K mg F' rho' v d → Q v H') (fun c d H' => W c d s H') F rho (g dx dy st) → R x y H) :
    tE K mg B W fa s H fun x H1 => tE K mg B W fb s H1 fun y H2 => R x y H2 := by
  obtain ⟨F, rho, sl, st, c, S, h⟩ := h
  refine ⟨F, rho, sl, st, c, S, h.bind.mono (Same.refl _) (Pre.refl _) (fun F1 r1 H1 dx e1 p1 h1 x rx => ?_) fun _ _ _ z => z⟩
  obtain ⟨st1, c1, _, _, h1⟩ := h1
  refine ⟨F1, r1, sl, st1, c1, S.mono e1 p1, h1.bind.mono (Same.refl _) (Pre.refl _) (fun F2 r2 H2 dy e2 p2 h2 y ry => ?_) fun _ _ _ z => z⟩
  obtain ⟨st2, c2, _, _, h2⟩ := h2
  exact hR F2 r2 st2 H2 x y dx dy c2 (rx.mono e2 p2) ry h2
end
section
variable {X : Cx} {B : Hp} {W : WX} {a b : Expr} {fa fb : ME} {pos : Pos} {r : R2} {g : S → S → M S}
theorem qe_op {op : Operator} (ho : OpR X (binaryOp op) r) (hg : OpS X.K X.mg r g) (ha : QE X B W a fa) (hb : QE X B W b fb) : QE X B W (.BinOp a op b pos) (eBin g fa fb) :=
  PEimp (pe_op ho ha hb) fun s H Q h => two h fun F rho st H x y dx dy c rx ry h => hg _ B F rho st H x y dx dy Q c rx ry h
theorem qe_ix (hr : IxR X r) (hg : OpS X.K X.mg r g) (ha : QE X B W a fa) (hb : QE X B W b fb) (hs : PlainIx b := by exact fun _ _ => rfl) : QE X B W (.Subscript a b pos) (eBin g fa fb) :=
  PEimp (pe_ix hr ha hb hs) fun s H Q h => two h fun F rho st H x y dx dy c rx ry h => hg _ B F rho st H x y dx dy Q c rx ry h
/-- a comparison as a test -/
@[simp] def tBin (g : S → S → M S) (a b : ME) : MT := fun sl => (eBin g a b sl).bind fun d => match d with
  | .val (.bl k) => M.pure k
  | _ => M.stuck
theorem test_of {f : ME} {s : St} {H : Hp} {Q : Bool → Hp → Prop} {K : PySem.W.Frag} {mg : Str → Option Value} (h : tT K mg B W (fun sl => (f sl).bind fun d => match d with | .val (.bl k) => M.pure k | _ => M.stuck) s H Q) :
    tE K mg B W f s H fun x H1 => ∃ k, x = .bl k ∧ Q k H1 := by
  obtain ⟨F, rho, sl, st, c, S, h⟩ := h
  refine ⟨F, rho, sl, st, c, S, h.bind.mono (Same.refl _) (Pre.refl _) (fun F1 r1 H1 dx e1 p1 h1 x rx => ?_) fun _ _ _ z => z⟩
  obtain ⟨st1, c1, _, _, h1⟩ := h1
  cases rx with
  | obj _ => exact h1.elim
  | val rx =>
    cases rx with
    | bl k => exact ⟨k, rfl, h1 F1 r1 H1 (Same.refl _) (Pre.refl _) c1⟩
    | _ => exact h1.elim
theorem qt_cmp {op : CmpOp} (ho : OpR X (compareOp op) r) (hg : OpS X.K X.mg r g) (ha : QE X B W a fa) (hb : QE X B W b fb) (hm : behindInMarks op b = false) : QT X B W (.Compare a [op] [b] pos) (tBin g fa fb) :=
  PTimp (pt_cmpR ho ha hb hm) fun s H Q h => two (test_of h) fun F rho st H x y dx dy c rx ry h => hg _ B F rho st H x y dx dy _ c rx ry h
/-- an expression whose value is a bool, as a test -/
@[simp] def tOfE (a : ME) : MT := fun sl => (a sl).bind fun d => match d with
  | .val (.bl k) => M.pure k
  | _ => M.stuck
theorem qt_val (ha : QE X B W a fa) (he : ∀ whole, isTrue a X.env whole = (do let v ← whole; standAt a.pos; holding [v] (truthy v)) := by intro _; rfl) : QT X B W a (tOfE fa) :=
  PTimp (pt_val ha he) fun s H Q h => test_of h
end
@[simp] def tAndM (a b : MT) : MT := fun sl => (a sl).bind fun k => if k = true then b sl else M.pure false
@[simp] def tOrM (a b : MT) : MT := fun sl => (a sl).bind fun k => if k = true then M.pure true else b sl
@[simp] def tNotM (a : MT) : MT := fun sl => (a sl).bind fun k => M.pure (!k)
section
variable {X : Cx} {B : Hp} {W : WX} {a b : Expr} {rest : List Expr} {fa fb : MT} {pos : Pos}
theorem qw_and1 (ha : QT X B W a fa) : QW X B W (.BoolOp .And [a] pos) fa := pw_and1 ha
theorem qw_or1 (ha : QT X B W a fa) : QW X B W (.BoolOp .Or [a] pos) fa := pw_or1 ha
theorem qw_and (ha : QT X B W a fa) (hb : QW X B W (.BoolOp .And (b :: rest) pos) fb) : QW X B W (.BoolOp .And (a :: b :: rest) pos) (tAndM fa fb) := by
  refine PWimp (pw_and ha hb) fun s H Q h => ?_
  obtain ⟨F, rho, sl, st, c, S, h⟩ := h
  refine ⟨F, rho, sl, st, c, S, h.bind.mono (Same.refl _) (Pre.refl _) (fun F1 r1 H1 k e1 p1 h1 => ?_) fun _ _ _ z => z⟩
  obtain ⟨st1, c1, _, _, h1⟩ := h1
  cases k with
  | true =>
    rw [if_pos rfl] at h1 ⊢
    exact ⟨F1, r1, sl, st1, c1, S.mono e1 p1, h1⟩
  | false =>
    rw [if_neg Bool.false_ne_true] at h1 ⊢
    exact h1 F1 r1 H1 (Same.refl _) (Pre.refl _) c1
theorem qw_or (ha : QT X B W a fa) (hb : QW X B W (.BoolOp .Or (b :: rest) pos) fb) : QW X B W (.BoolOp .Or (a :: b :: rest) pos) (tOrM fa fb) := by
  refine PWimp (pw_or ha hb) fun s H Q h => ?_
  obtain ⟨F, rho, sl, st, c, S, h⟩ := h
  refine ⟨F, rho, sl, st, c, S, h.bind.mono (Same.refl _) (Pre.refl _) (fun F1 r1 H1 k e1 p1 h1 => ?_) fun _ _ _ z => z⟩
  obtain ⟨st1, c1, _, _, h1⟩ := h1
  cases k with
  | true =>
    rw [if_pos rfl] at h1 ⊢
    exact h1 F1 r1 H1 (Same.refl _) (Pre.refl _) c1
  | false =>
    rw [if_neg Bool.false_ne_true] at h1 ⊢
    exact ⟨F1, r1, sl, st1, c1, S.mono e1 p1, h1⟩
theorem qt_not (ha : QT X B W a fa) : QT X B W (.UnaryOp .Not a pos) (tNotM fa) := by
  refine PTimp (pt_not ha) fun s H Q h => ?_
  obtain ⟨F, rho, sl, st, c, S, h⟩ := h
  refine ⟨F, rho, sl, st, c, S, h.bind.mono (Same.refl _) (Pre.refl _) (fun F1 r1 H1 k e1 p1 h1 => ?_) fun _ _ _ z => z⟩
  obtain ⟨st1, c1, _, _, h1⟩ := h1
  exact h1 F1 r1 H1 (Same.refl _) (Pre.refl _) c1
end
@[simp] def aNil : MA := fun _ => M.pure []
@[simp] def aCons (a : ME) (r : MA) : MA := fun sl => (a sl).bind fun x => (r sl).bind fun xs => M.pure (x :: xs)
section
variable {X : Cx} {B : Hp} {W : WX} {e : Expr} {es : List Expr} {f : ME} {fs : MA} {pos : Pos}
theorem qa_nil : QA X B W [] aNil := PAimp pa_nil fun s H Q ⟨F, rho, sl, st, c, S, h⟩ => h F rho H (Same.refl _) (Pre.refl _) c [] .nil
theorem qa_cons (ha : QE X B W e f) (hr : QA X B W es fs) (hs : starEach (e :: es) X.env = (false, eval e X.env) :: starEach es X.env := by rfl) : QA X B W (e :: es) (aCons f fs) := by
  refine PAimp (pa_cons ha hr hs) fun s H Q h => ?_
  obtain ⟨F, rho, sl, st, c, S, h⟩ := h
  refine ⟨F, rho, sl, st, c, S, h.bind.mono (Same.refl _) (Pre.refl _) (fun F1 r1 H1 dx e1 p1 h1 x rx => ?_) fun _ _ _ z => z⟩
  obtain ⟨st1, c1, _, _, h1⟩ := h1
  refine ⟨F1, r1, sl, st1, c1, S.mono e1 p1, h1.bind.mono (Same.refl _) (Pre.refl _) (fun F2 r2 H2 dxs e2 p2 h2 xs rxs => ?_) fun _ _ _ z => z⟩
  obtain ⟨st2, c2, _, _, h2⟩ := h2
  exact h2 F2 r2 H2 (Same.refl _) (Pre.refl _) c2 (x :: xs) (.cons (rx.mono e2 p2) rxs)
/-- arguments, then something by their values -/
theorem args_of {K : PySem.W.Frag} {mg : Str → Option Value} {g : List S → M S} {s : St} {H : Hp} {Q : VK} {R : List V → Hp → Prop} (h : tE K mg B W (fun sl => (fs sl).bind g) s H Q)
    (hR : ∀ F rho st H vs ds, Core K mg B F rho st H → RepSs K mg F rho vs ds → Post K mg B (fun F' rho' H' d => ∀ v, RepS K mg F' rho' v d → Q v H') (fun c d H' => W c d s H') F rho (g ds st) → R vs H) :
    tA K mg B W fs s H R := by
  obtain ⟨F, rho, sl, st, c, S, h⟩ := h
  refine ⟨F, rho, sl, st, c, S, h.bind.mono (Same.refl _) (Pre.refl _) (fun F1 r1 H1 ds e1 p1 h1 vs rs => ?_) fun _ _ _ z => z⟩
  obtain ⟨st1, c1, _, _, h1⟩ := h1
  exact hR F1 r1 st1 H1 vs ds c1 rs h1
def gTup (ss : List S) : M S := (toDs ss).bind fun ds => fun st => if ds.length ≤ sizeLine then some (.ok (.val (.tup ds)), st) else none
def gLst (ss : List S) : M S := (toDs ss).bind fun ds => fun st => if ds.length ≤ sizeLine then some (.ok (.val (.lst ds)), st) else none
/-- a new list of the store -/
def gLstO (ds : List S) : M S := fun st => if ds.length ≤ sizeLine then some (.ok (.obj st.length), st ++ [.lst ds]) else none
@[simp] def eArgs (g : List S → M S) (fs : MA) : ME := fun sl => (fs sl).bind g
section
variable {K : PySem.W.Frag} {mg : Str → Option Value} {F : Hp} {rho : List Addr} {st : List O} {H : Hp} {vs : List V} {ds : List S} {Q : VK} {W' : Value → Option Addr → Hp → Prop}
theorem tup_post (c : Core K mg B F rho st H) (rs : RepSs K mg F rho vs ds) (h : Post K mg B (fun F' rho' H' d => ∀ v, RepS K mg F' rho' v d → Q v H') W' F rho (gTup ds st)) : vs.length ≤ sizeLine ∧ ∀ p o, H p = none → o.dict = none → Q (.ref p) (upd H p (.frz o (.tup vs))) := by
  obtain ⟨F1, st1, ds', e1, c1, r1, st2, c2, e2, p2, h2⟩ := toDs_ok c rs h.bind
  split at h2
  · rename_i hz
    exact ⟨by rw [r1.length]; exact hz, fun p o hp hd => h2 (upd F1 p (.frz o (.tup vs))) rho _ (same_upd (c2.same.free hp)) (Pre.refl _) (c2.alloc hp) _ (.val (.tup SqT.ofF (r1.mono (same_upd (c2.same.free hp))) fun _ => NoD.of hd))⟩
  · exact h2.elim
theorem lst_post (c : Core K mg B F rho st H) (rs : RepSs K mg F rho vs ds) (h : Post K mg B (fun F' rho' H' d => ∀ v, RepS K mg F' rho' v d → Q v H') W' F rho (gLst ds st)) : vs.length ≤ sizeLine ∧ ∀ p, H p = none → Q (.ref p) (upd H p (.lst vs)) := by
  obtain ⟨F1, st1, ds', e1, c1, r1, st2, c2, e2, p2, h2⟩ := toDs_ok c rs h.bind
  split at h2
  · rename_i hz
    exact ⟨by rw [r1.length]; exact hz, fun p hp => h2 (upd F1 p (.lst vs)) rho _ (same_upd (c2.same.free hp)) (Pre.refl _) (c2.alloc hp) _ (.val (.lst upd_same (r1.mono (same_upd (c2.same.free hp)))))⟩
  · exact h2.elim
theorem lstO_post (c : Core K mg B F rho st H) (rs : RepSs K mg F rho vs ds) (h : Post K mg B (fun F' rho' H' d => ∀ v, RepS K mg F' rho' v d → Q v H') W' F rho (gLstO ds st)) : vs.length ≤ sizeLine ∧ ∀ p, H p = none → Q (.ref p) (upd H p (.lst vs)) := by
  unfold gLstO at h
  split at h
  · rename_i hz
    refine ⟨by rw [rs.length]; exact hz, fun p hp => h F (rho ++ [p]) _ (Same.refl _) (Pre.app _ _) (c.new hp ⟨c.same.free hp, vs, upd_same, rs.mono (Same.refl _) (Pre.app _ _)⟩) _ (.obj ?_)⟩
    rw [← c.len, List.getElem?_append_right (Nat.le_refl _), Nat.sub_self]; rfl
  · exact h.elim
end
theorem qe_tup {x1} (h : QA X B W es fs) : QE X B W (.Tuple es x1 pos) (eArgs gTup fs) := PEimp (pe_tupF h) fun s H Q q => args_of q fun F rho st H vs ds c rs p => tup_post c rs p
theorem qe_lst (h : QA X B W es fs) : QE X B W (.List es pos) (eArgs gLst fs) := PEimp (pe_lst h) fun s H Q q => args_of q fun F rho st H vs ds c rs p => lst_post c rs p
theorem qe_lstO (h : QA X B W es fs) : QE X B W (.List es pos) (eArgs gLstO fs) := PEimp (pe_lst h) fun s H Q q => args_of q fun F rho st H vs ds c rs p => lstO_post c rs p
end
end Cl
namespace Cl
open PySem L2
@[simp] def sBind {α : Type} (m : Sl → M α) (k : α → MS) : MS := fun sl st => match m sl st with
  | none => none
  | some (.error x, st1) => some (.xc x, sl, st1)
  | some (.ok a, st1) => k a sl st1
@[simp] def sNext : MS := fun sl st => some (.nx, sl, st)
@[simp] def sBreak : MS := fun sl st => some (.bk, sl, st)
@[simp] def sCont : MS := fun sl st => some (.ct, sl, st)
@[simp] def sStuck : MS := fun _ _ => none
@[simp] def sSet (i : Nat) (f : ME) : MS := sBind f fun d sl st => some (.nx, sl.set i (some d), st)
@[simp] def sExpr (f : ME) : MS := sBind f fun _ sl st => some (.nx, sl, st)
@[simp] def sRet (f : ME) : MS := sBind f fun d sl st => some (.rt d, sl, st)
@[simp] def sIf (c : MT) (a b : MS) : MS := sBind c fun k => if k = true then a else b
@[simp] def sSeq (a b : MS) : MS := fun sl st => match a sl st with
  | some (.nx, sl1, st1) => b sl1 st1
  | r => r
section
variable {K : PySem.W.Frag} {mg : Str → Option Value} {B F F' : Hp} {rho rho' : List Addr} {W : WX} {N : Ends}
theorem PostS.mono {m : Option (Fl × Sl × List O)} (h : PostS K mg B W N F rho m) (e : Same F F') (p : Pre rho rho') : PostS K mg B W N F' rho' m := by
  match m, h with
  | some (fl, sl', st'), h => exact fun F1 r1 H1 s1 e1 p1 => h F1 r1 H1 s1 (e.trans e1) (p.trans p1)
theorem PostS.bind {α : Type} {m : Sl → M α} {k : α → MS} {sl : Sl} {st : List O} {s : St} (S : Slots K mg F rho s sl) (h : PostS K mg B W N F rho (sBind m k sl st)) :
    Post K mg B (fun F' rho' H' a => ∃ st', Core K mg B F' rho' st' H' ∧ Same F F' ∧ Pre rho rho' ∧ PostS K mg B W N F' rho' (k a sl st')) (fun c d H' => W c d s H') F rho (m sl st) := by
  unfold sBind at h
  match q : m sl st with
  | none => rw [q] at h; exact h
  | some (.error x, st1) => rw [q] at h; exact fun F1 r1 H1 e p c cls dd xr => h F1 r1 H1 s e p c (S.mono e p) cls dd xr
  | some (.ok a, st1) =>
    rw [q] at h
    exact fun F1 r1 H1 e p c => ⟨st1, c, e, p, h.mono e p⟩
theorem PostS.nx {sl : Sl} {st : List O} {H : Hp} {s : St} (h : PostS K mg B W N F rho (some (.nx, sl, st))) (c : Core K mg B F rho st H) (S : Slots K mg F rho s sl) : N.nx s H := h F rho H s (Same.refl _) (Pre.refl _) c S
end
section
variable {K : PySem.W.Frag} {mg : Str → Option Value} {B : Hp} {W : WX} {N : Ends} {s : St} {H : Hp}
/-- a statement that begins with an expression -/
theorem stm_of {fe : ME} {k : S → MS} {R : V → Hp → Prop} (h : tS K mg B W (sBind fe k) N s H)
    (hR : ∀ F rho sl st H v d, Core K mg B F rho st H → Slots K mg F rho s sl → RepS K mg F rho v d → PostS K mg B W N F rho (k d sl st) → R v H) : tE K mg B W fe s H R := by
  obtain ⟨F, rho, sl, st, c, S, h⟩ := h
  refine ⟨F, rho, sl, st, c, S, (PostS.bind S h).mono (Same.refl _) (Pre.refl _) (fun F1 r1 H1 d e1 p1 h1 v rv => ?_) fun _ _ _ z => z⟩
  obtain ⟨st1, c1, _, _, h1⟩ := h1
  exact hR F1 r1 sl st1 H1 v d c1 (S.mono e1 p1) rv h1
theorem stm_ofT {fc : MT} {k : Bool → MS} {R : Bool → Hp → Prop} (h : tS K mg B W (sBind fc k) N s H)
    (hR : ∀ F rho sl st H b, Core K mg B F rho st H → Slots K mg F rho s sl → PostS K mg B W N F rho (k b sl st) → R b H) : tT K mg B W fc s H R := by
  obtain ⟨F, rho, sl, st, c, S, h⟩ := h
  refine ⟨F, rho, sl, st, c, S, (PostS.bind S h).mono (Same.refl _) (Pre.refl _) (fun F1 r1 H1 d e1 p1 h1 => ?_) fun _ _ _ z => z⟩
  obtain ⟨st1, c1, _, _, h1⟩ := h1
  exact hR F1 r1 sl st1 H1 d c1 (S.mono e1 p1) h1
end
section
variable {X : Cx} {B : Hp} {W : WX} {st : Stmt} {rest : List Stmt} {e : Expr} {fe : ME} {fc : MT} {fa fb : MS} {pos : Pos}
theorem qs_set {i : Nat} {x : Str} {pos' : Pos} (he : QE X B W e fe) (hN : X.N.Nodup) (hi : X.N[i]? = some x := by rfl) (hx : Loc X.env.scope x := by first | exact Or.inl rfl | exact Or.inr rfl) (hs : swapsWith e (some (.Name x pos')) pos.line X.env = pure false := by rfl) (hf : X.fn x = true ∨ X.env.scope.names.lookup x = some .local := by first | exact .inl rfl | exact .inr rfl | assumption) :
    QS X B W (.Assign [.Name x pos'] e pos) (sSet i fe) :=
  PSimp (ps_set hN hi hx he hs hf) fun N s H h => stm_of h fun F rho sl st H v d c S r p => p.nx c (S.set r i)
theorem qs_expr (he : QE X B W e fe) (hs : swapsWith e none pos.line X.env = pure false := by rfl) : QS X B W (.Expr e pos) (sExpr fe) :=
  PSimp (ps_expr he hs) fun N s H h => stm_of h fun F rho sl st H v d c S r p => p.nx c S
theorem qs_ret (he : QE X B W e fe) : QS X B W (.Return (some e) pos) (sRet fe) :=
  PSimp (ps_ret he) fun N s H h => stm_of h fun F rho sl st H v d c S r p => p F rho H s (Same.refl _) (Pre.refl _) c S v r
theorem qs_if {c : Expr} {a b : List Stmt} (hc : QT X B W c fc) (ha : QSs X B W a fa) (hb : QSs X B W b fb) : QS X B W (.If c a b pos) (sIf fc fa fb) :=
  PSimp (ps_if hc ha hb) fun N s H h => stm_ofT h fun F rho sl st H k c S p => by
    cases k with
    | true => rw [if_pos rfl] at p ⊢; exact ⟨F, rho, sl, st, c, S, p⟩
    | false => rw [if_neg Bool.false_ne_true] at p ⊢; exact ⟨F, rho, sl, st, c, S, p⟩
theorem qss_nil : QSs X B W [] sNext := PSsimp pss_nil fun N s H ⟨F, rho, sl, st, c, S, h⟩ => h.nx c S
/-- one statement, then others, at the level of readings -/
theorem seq_of {K : PySem.W.Frag} {mg : Str → Option Value} {N : Ends} {s : St} {H : Hp} {u : TS} (hu : ∀ s' H', tS K mg B W fb N s' H' → u N s' H') (h : tS K mg B W (sSeq fa fb) N s H) : tS K mg B W fa { N with nx := u N } s H := by
  obtain ⟨F, rho, sl, st, c, S, h⟩ := h
  refine ⟨F, rho, sl, st, c, S, ?_⟩
  unfold sSeq at h
  match q : fa sl st with
  | none => rw [q] at h; exact h
  | some (.nx, sl1, st1) =>
    rw [q] at h
    exact fun F1 r1 H1 s1 e p c1 S1 => hu _ _ ⟨F1, r1, sl1, st1, c1, S1, PostS.mono h e p⟩
  | some (.bk, sl1, st1) => rw [q] at h; exact h
  | some (.ct, sl1, st1) => rw [q] at h; exact h
  | some (.rt d, sl1, st1) => rw [q] at h; exact h
  | some (.xc d, sl1, st1) => rw [q] at h; exact h
theorem qss_cons (h1 : QS X B W st fa) (h2 : QSs X B W rest fb) : QSs X B W (st :: rest) (sSeq fa fb) :=
  PSsimp (pss_cons h1 h2) fun N s H h => seq_of (fun _ _ z => z) h
theorem qss_one (h1 : QS X B W st fa) : QSs X B W [st] fa := pss_one h1
end
def whileN : Nat → MT → MS → Sl → List O → Option (Fl × Sl × List O)
  | 0, _, _, _, _ => none
  | n + 1, c, b, sl, st => match c sl st with
    | none => none
    | some (.error x, st1) => some (.xc x, sl, st1)
    | some (.ok false, st1) => some (.nx, sl, st1)
    | some (.ok true, st1) => match b sl st1 with
      | some (.nx, sl2, st2) => whileN n c b sl2 st2
      | some (.ct, sl2, st2) => whileN n c b sl2 st2
      | some (.bk, sl2, st2) => some (.nx, sl2, st2)
      | r => r
open Classical in
/-- the loop, however many turns it takes -/
noncomputable def sWhile (c : MT) (b : MS) : MS := fun sl st => if h : ∃ n, (whileN n c b sl st).isSome = true then whileN h.choose c b sl st else none
theorem whileN_succ {c : MT} {b : MS} : ∀ {n : Nat} {sl : Sl} {st : List O} {r}, whileN n c b sl st = some r → whileN (n + 1) c b sl st = some r
  | 0, sl, st, r, h => by cases h
  | n + 1, sl, st, r, h => by
    rw [whileN] at h ⊢
    match q : c sl st with
    | none => rw [q] at h; cases h
    | some (.error x, st1) => rw [q] at h; exact h
    | some (.ok false, st1) => rw [q] at h; exact h
    | some (.ok true, st1) =>
      rw [q] at h
      match q2 : b sl st1 with
      | none => simp only [q2] at h; cases h
      | some (.nx, sl2, st2) => simp only [q2] at h ⊢; exact whileN_succ h
      | some (.ct, sl2, st2) => simp only [q2] at h ⊢; exact whileN_succ h
      | some (.bk, sl2, st2) => simp only [q2] at h ⊢; exact h
      | some (.rt d, sl2, st2) => simp only [q2] at h ⊢; exact h
      | some (.xc d, sl2, st2) => simp only [q2] at h ⊢; exact h
theorem whileN_mono {c : MT} {b : MS} {n m : Nat} {sl : Sl} {st : List O} {r} (h : whileN n c b sl st = some r) (hm : n ≤ m) : whileN m c b sl st = some r := by
  induction hm with
  | refl => exact h
  | step _ ih => exact whileN_succ ih
theorem sWhile_of {c : MT} {b : MS} {n : Nat} {sl : Sl} {st : List O} {r} (h : whileN n c b sl st = some r) : sWhile c b sl st = some r := by
  have hx : ∃ n, (whileN n c b sl st).isSome = true := ⟨n, by rw [h]; rfl⟩
  unfold sWhile
  rw [dif_pos hx]
  obtain ⟨r', e⟩ := Option.isSome_iff_exists.mp hx.choose_spec
  rcases Nat.le_total n hx.choose with q | q
  · exact whileN_mono h q
  · have := whileN_mono e q
    rw [e, ← this, h]
theorem of_sWhile {c : MT} {b : MS} {sl : Sl} {st : List O} {r} (h : sWhile c b sl st = some r) : ∃ n, whileN n c b sl st = some r := by
  unfold sWhile at h
  split at h
  · exact ⟨_, h⟩
  · cases h
section
variable {X : Cx} {B : Hp} {W : WX} {c : Expr} {body : List Stmt} {fc : MT} {fb : MS} {pos : Pos}
theorem qs_while (hp : PassesOwn (model X.prog X.w) X.A X.env X.xe) (hc : QT X B W c fc) (hb : QSs X B W body fb) : QS X B W (.While c body [] pos) (sWhile fc fb) := by
  refine PSimp (ps_while hp hc hb) fun N s H h => ?_
  obtain ⟨F0, rho0, sl, st, c, S, h⟩ := h
  refine ⟨fun m s' H' => ∃ F rho sl st, Core X.K X.mg B F rho st H' ∧ Slots X.K X.mg F rho s' sl ∧ PostS X.K X.mg B W N F rho (whileN m fc fb sl st), ?_, ?_⟩
  · match q : sWhile fc fb sl st with
    | none => rw [q] at h; exact h.elim
    | some r =>
      obtain ⟨n, e⟩ := of_sWhile q
      exact ⟨n, F0, rho0, sl, st, c, S, by rw [e, ← q]; exact h⟩
  · rintro m s1 H1 ⟨F, rho, sl, st, c, S, h⟩
    cases m with
    | zero => exact h.elim
    | succ n =>
      rw [whileN] at h
      refine ⟨F, rho, sl, st, c, S, ?_⟩
      match q : fc sl st with
      | none => rw [q] at h; exact h
      | some (.error x, st1) => rw [q] at h; exact fun F1 r1 H1 e p c cls dd xr => h F1 r1 H1 s1 e p c (S.mono e p) cls dd xr
      | some (.ok false, st1) =>
        rw [q] at h
        intro F1 r1 H1 e p c1
        refine iteF ?_
        exact h F1 r1 H1 s1 e p c1 (S.mono e p)
      | some (.ok true, st1) =>
        rw [q] at h
        intro F1 r1 H1 e p c1
        refine iteT ?_
        refine ⟨fun s' H' => ∃ F rho sl st, Core X.K X.mg B F rho st H' ∧ Slots X.K X.mg F rho s' sl ∧ PostS X.K X.mg B W N F rho (whileN n fc fb sl st), fun s' H' z => ⟨n, Nat.lt_succ_self _, z⟩, F1, r1, sl, st1, c1, S.mono e p, ?_⟩
        have h := PostS.mono h e p
        match q2 : fb sl st1 with
        | none => simp only [q2] at h; exact h
        | some (.nx, sl2, st2) => simp only [q2] at h; exact fun F2 r2 H2 s2 e2 p2 c2 S2 => ⟨F2, r2, sl2, st2, c2, S2, PostS.mono h e2 p2⟩
        | some (.ct, sl2, st2) => simp only [q2] at h; exact fun F2 r2 H2 s2 e2 p2 c2 S2 => ⟨F2, r2, sl2, st2, c2, S2, PostS.mono h e2 p2⟩
        | some (.bk, sl2, st2) => simp only [q2] at h; exact fun F2 r2 H2 s2 e2 p2 c2 S2 => h F2 r2 H2 s2 e2 p2 c2 S2
        | some (.rt d, sl2, st2) => simp only [q2] at h; exact fun F2 r2 H2 s2 e2 p2 c2 S2 => h F2 r2 H2 s2 e2 p2 c2 S2
        | some (.xc d, sl2, st2) => simp only [q2] at h; exact fun F2 r2 H2 s2 e2 p2 c2 S2 => h F2 r2 H2 s2 e2 p2 c2 S2
end
end Cl
namespace Cl
open PySem L2
section
variable {K : PySem.W.Frag} {mg : Str → Option Value} {B F F' : Hp} {rho rho' : List Addr} {st : List O} {H H' : Hp} {a p : Addr} {o : O}
/-- what is new stands where nothing stood -/
def Fresh (F F' H : Hp) : Prop := ∀ a, F' a ≠ none → F a ≠ none ∨ H a = none
open Classical in
noncomputable def less (K : PySem.W.Frag) (H F : Hp) : Hp := fun a => if F a = none ∧ ¬ ∃ q, IsTab K a q then H a else none
/-- all but the tables stay -/
def SameX (K : PySem.W.Frag) (H H' : Hp) : Prop := ∀ b o, H b = some o → (¬ ∃ q, IsTab K b q) → H' b = some o
def Tabs (K : PySem.W.Frag) (F H : Hp) : Prop := ∀ P q, IsTab K P q → F P = none ∧ LamX.TabS H P q
theorem Core.start (e : Same F H) (t : Tabs K F H) : Core K mg (less K H F) F [] [] H := by
  refine ⟨e, fun b o q => ?_, fun b q => ?_, fun k b q => by simp at q, List.nodup_nil, rfl, fun k b o q => by simp at q, fun k b q => by simp at q, fun P q h => ?_⟩
  · unfold less at q; split at q
    · exact q
    · cases q
  · unfold less; rw [if_neg (fun z => q z.1)]
  · exact ⟨by unfold less; rw [if_neg (fun z => z.2 ⟨q, h⟩)], t P q h⟩
theorem Core.tb (c : Core K mg B F rho st H) : Tabs K F H := fun P q h => (c.tabs P q h).2
theorem Core.all (c : Core K mg (less K H F) F' rho st H') (e : Same F H) (e' : Same F F') : SameX K H H' := fun b o q n => by
  cases z : F b with
  | some u => 
    have := e b u z
    rw [q] at this; cases this
    exact c.same b o (e' b o z)
  | none => exact c.frame b o (by unfold less; rw [if_pos ⟨z, n⟩]; exact q)
theorem less_fresh {F2 : Hp} (t : Tabs K F2 H') (h : ∀ b, F2 b ≠ none → less K H F b = none) : Fresh F F2 H := fun b q => by
  have z := h b q
  unfold less at z
  split at z
  · exact .inr z
  · rename_i h2
    refine .inl fun y => h2 ⟨y, fun ⟨q2, i⟩ => q (t _ _ i).1⟩
theorem Core.fresh (c : Core K mg (less K H F) F' rho st H') : Fresh F F' H := less_fresh c.tb c.apart
theorem Core.noX (c : Core K mg B F rho st H) {k : Nat} (h : rho[k]? = some a) : ¬ ∃ q, IsTab K a q := fun ⟨q, i⟩ => by
  obtain ⟨ps, e⟩ := tab_at c.tabs i
  exact c.noT h e (.inl ⟨ps, rfl⟩) rfl
theorem Core.grow (c : Core K mg B F rho st H) (e1 : Same F F') (e2 : Same F' H') (e3 : SameX K H H') (fr : Fresh F F' H) (t : Tabs K F' H') : Core K mg B F' rho st H' := by
  refine ⟨e2, fun b o q => e3 b o (c.frame b o q) (fun ⟨z, i⟩ => by rw [(c.tabs _ _ i).1] at q; cases q), fun b q => ?_, c.off, c.nd, c.len, fun k b o q1 q2 => ?_, fun k b q => ?_, fun P q i => ⟨(c.tabs P q i).1, t P q i⟩⟩
  · rcases fr b q with z | z
    · exact c.apart b z
    · exact c.frame.free z
  · refine (c.own k b o q1 q2).mono e1 (Pre.refl _) (fun z => ?_) (fun u z => e3 _ _ z (c.noX q1))
    cases y : F' b with
    | none => rfl
    | some u =>
      rcases fr b (by rw [y]; exact fun z => by cases z) with x | x
      · exact absurd z x
      · exact absurd x (c.live k b q1)
  · obtain ⟨u, z, n⟩ := c.liv k b q
    exact ⟨u, e3 _ _ z (c.noX q), n⟩
/-- an object that nobody asks after -/
theorem Core.junk {u : HO} (c : Core K mg B F rho st H) (h : H p = none) : Core K mg B F rho st (upd H p u) := by
  have hp : F p = none := c.same.free h
  have hb : B p = none := c.frame.free h
  refine ⟨same_upd1 c.same hp, same_upd1 c.frame hb, c.apart, c.off, c.nd, c.len, fun k b o e1 e2 => ?_, fun k b e => ?_, c.tabs.mono (fun b o e _ => by rw [upd_ne (ne_of_none e h)]; exact e) (fun _ _ _ _ z => z) fun _ _ _ _ z => z⟩
  · have nb : b ≠ p := fun z => c.live k b e1 (by rw [z]; exact h)
    exact (c.own k b o e1 e2).mono (Same.refl _) (Pre.refl _) (fun z => z) (fun u z => by rw [upd_ne nb]; exact z)
  · have nb : b ≠ p := fun z => c.live k b e (by rw [z]; exact h)
    rw [upd_ne nb]; exact c.liv k b e
/-- all that is owned is frozen -/
def shut (F : Hp) (rho : List Addr) (H : Hp) : Hp := fun a => match F a with
  | some o => some o
  | none => if a ∈ rho then H a else none
theorem shut_same : Same F (shut F rho H) := fun b o q => by unfold shut; rw [q]
theorem shut_in (c : Core K mg B F rho st H) : Same (shut F rho H) H := fun b o q => by
  unfold shut at q
  cases z : F b with
  | some u => rw [z] at q; cases q; exact c.same b _ z
  | none =>
    rw [z] at q
    dsimp only at q
    split at q
    · exact q
    · cases q
theorem shut_at {k : Nat} (c : Core K mg B F rho st H) (h : rho[k]? = some a) {u : HO} (hF : F a = none) (hH : H a = some u) : shut F rho H a = some u := by
  unfold shut; rw [hF]; dsimp only; rw [if_pos (List.mem_of_getElem? h)]; exact hH
theorem shut_apart (c : Core K mg B F rho st H) : ∀ a, shut F rho H a ≠ none → B a = none := fun b q => by
  unfold shut at q
  cases z : F b with
  | some u => exact c.apart b (by rw [z]; exact fun z => by cases z)
  | none =>
    rw [z] at q
    dsimp only at q
    split at q
    · rename_i h
      obtain ⟨k, hk⟩ := List.getElem?_of_mem h
      exact c.off k b hk
    · exact absurd rfl q
theorem shut_tb (c : Core K mg B F rho st H) : Tabs K (shut F rho H) H := fun P q i => by
  obtain ⟨_, h2, h3⟩ := c.tabs P q i
  refine ⟨?_, h3⟩
  unfold shut; rw [h2]; dsimp only
  rw [if_neg (fun z => by obtain ⟨k, hk⟩ := List.getElem?_of_mem z; exact c.noX hk ⟨q, i⟩)]
end
mutual
def deepD : Nat → List O → S → Option D
  | _, _, .val d => some d
  | 0, _, .obj _ => none
  | n + 1, st, .obj k => match st[k]? with
    | some (.frz d) => some d
    | some (.lst l) => (deepL n st l).map .lst
    | some (.ins c fs) => (deepF n st fs).map (.ins c)
    | some (.dct l) => (deepK n st l).map .dct
    | some (.dcn _) => none
    | some (.tup l) => (deepL n st l).map .tup
    | none => none
def deepL : Nat → List O → List S → Option (List D)
  | _, _, [] => some []
  | n, st, s :: r => match deepD n st s, deepL n st r with
    | some d, some ds => some (d :: ds)
    | _, _ => none
def deepF : Nat → List O → List (Str × S) → Option (List (Str × D))
  | _, _, [] => some []
  | n, st, (f, s) :: r => match deepD n st s, deepF n st r with
    | some d, some ds => some ((f, d) :: ds)
    | _, _ => none
def deepK : Nat → List O → List (D × S) → Option (List (D × D))
  | _, _, [] => some []
  | n, st, (k, s) :: r => match deepD n st s, deepK n st r with
    | some d, some ds => some ((k, d) :: ds)
    | _, _ => none
end
section
variable {K : PySem.W.Frag} {mg : Str → Option Value} {B F : Hp} {rho : List Addr} {st : List O} {H : Hp}
mutual
theorem deep_ok (c : Core K mg B F rho st H) : ∀ (n : Nat) {v : V} {s : S} {d : D}, RepS K mg F rho v s → deepD n st s = some d → Rep K mg (shut F rho H) v d
  | n, _, _, _, .val r, h => by
    unfold deepD at h
    cases h; exact r.mono shut_same
  | 0, _, _, _, .obj q, h => by unfold deepD at h; cases h
  | n + 1, _, _, _, .obj (k := k) (a := a) q, h => by
    unfold deepD at h
    match e : st[k]? with
    | some (.frz d) => rw [e] at h; cases h; exact Rep.mono shut_same (c.own k a _ q e)
    | some (.lst l) =>
      rw [e] at h
      obtain ⟨ds, h2, rfl⟩ := Option.map_eq_some_iff.mp h
      obtain ⟨hF, vs, hH, rs⟩ := c.own k a _ q e
      exact .lst (shut_at c q hF hH) (deepL_ok c n rs h2)
    | some (.ins m fs) =>
      rw [e] at h
      obtain ⟨ds, h2, rfl⟩ := Option.map_eq_some_iff.mp h
      obtain ⟨hF, C, dx, vs, hm, hH, rs⟩ := c.own k a _ q e
      exact .ins hm (shut_at c q hF hH) (deepF_ok c n rs h2)
    | some (.dct l) =>
      rw [e] at h
      obtain ⟨ds, h2, rfl⟩ := Option.map_eq_some_iff.mp h
      obtain ⟨hF, vs, hH, rs⟩ := c.own k a _ q e
      exact .dct (shut_at c q hF hH) (deepK_ok c n rs h2)
    | some (.dcn _) => rw [e] at h; cases h
    | some (.tup l) =>
      rw [e] at h
      obtain ⟨ds, h2, rfl⟩ := Option.map_eq_some_iff.mp h
      obtain ⟨⟨vs, hq, rs⟩, hn⟩ := c.own k a _ q e
      exact .tup (SqT_mono shut_same hq) (deepL_ok c n rs h2) fun _ => hn.mono shut_same
    | none => rw [e] at h; cases h
theorem deepL_ok (c : Core K mg B F rho st H) : ∀ (n : Nat) {vs : List V} {ss : List S} {ds : List D}, RepSs K mg F rho vs ss → deepL n st ss = some ds → Reps K mg (shut F rho H) vs ds
  | n, _, _, _, .nil, h => by unfold deepL at h; cases h; exact .nil
  | n, _, _, _, .cons (d := s) (ds := ss) r t, h => by
    unfold deepL at h
    match e1 : deepD n st s, e2 : deepL n st ss with
    | some d, some ds => rw [e1, e2] at h; cases h; exact .cons (deep_ok c n r e1) (deepL_ok c n t e2)
    | none, _ => rw [e1] at h; cases h
    | some d, none => rw [e1, e2] at h; cases h
theorem deepF_ok (c : Core K mg B F rho st H) : ∀ (n : Nat) {vs : List (Str × V)} {ss : List (Str × S)} {ds : List (Str × D)}, RepSF K mg F rho vs ss → deepF n st ss = some ds → RepF K mg (shut F rho H) vs ds
  | n, _, _, _, .nil, h => by unfold deepF at h; cases h; exact .nil
  | n, _, _, _, .cons (d := s) (ds := ss) r t, h => by
    unfold deepF at h
    match e1 : deepD n st s, e2 : deepF n st ss with
    | some d, some ds => rw [e1, e2] at h; cases h; exact .cons (deep_ok c n r e1) (deepF_ok c n t e2)
    | none, _ => rw [e1] at h; cases h
    | some d, none => rw [e1, e2] at h; cases h
theorem deepK_ok (c : Core K mg B F rho st H) : ∀ (n : Nat) {vs : List (Key × V)} {ss : List (D × S)} {ds : List (D × D)}, RepSK K mg F rho vs ss → deepK n st ss = some ds → RepK K mg (shut F rho H) vs ds
  | n, _, _, _, .nil, h => by unfold deepK at h; cases h; exact .nil
  | n, _, _, _, .cons (d := s) (ds := ss) r t, h => by
    unfold deepK at h
    match e1 : deepD n st s, e2 : deepK n st ss with
    | some d, some ds => rw [e1, e2] at h; cases h; exact .cons (deep_ok c n r e1) (deepK_ok c n t e2)
    | none, _ => rw [e1] at h; cases h
    | some d, none => rw [e1, e2] at h; cases h
end
end
/-- a def that changes nothing, by its data -/
abbrev PF := List D → Option (Except XD D)
/-- a def over the store -/
abbrev OF := List S → List O → Option (Except XD S × List O)
section
variable (K : PySem.W.Frag) (mg : Str → Option Value)
def PostP (F H : Hp) (R : Hp → Hp → D → Prop) (E : XK) (m : Option (Except XD D)) : Prop := match m with
  | none => False
  | some (.ok d) => ∀ F' H', Same F F' → Same F' H' → SameX K H H' → Fresh F F' H → Tabs K F' H' → R F' H' d
  | some (.error x) => ∀ F' H', Same F F' → Same F' H' → SameX K H H' → Fresh F F' H → Tabs K F' H' → ∀ cls dd, XRep K mg F' cls dd x → E cls dd H'
def spP (n : Nat) (f : PF) : Sp := fun vs H Q E => ∃ F ds, Same F H ∧ Tabs K F H ∧ Reps K mg F vs ds ∧ ds.length = n ∧ PostP K mg F H (fun F' H' d => ∀ v, Rep K mg F' v d → Q v H') E (f ds)
def spO (n : Nat) (f : OF) : Sp := fun vs H Q E => ∃ B F rho st ss, Core K mg B F rho st H ∧ RepSs K mg F rho vs ss ∧ ss.length = n ∧ Post K mg B (fun F' rho' H' s => ∀ v, RepS K mg F' rho' v s → Q v H') (fun c d H' => E c d H') F rho (f ss st)
/-- an __init__ whose instance is never changed behind it -/
def spM (c : Str) (n : Nat) (f : PF) : Sp := fun vs H Q E => ∃ F ds a us, vs = .ref a :: us ∧ Same F H ∧ Tabs K F H ∧ F a = none ∧ (∃ C dx, mg c = some (.ref C) ∧ H a = some (.ins C dx [])) ∧ Reps K mg F us ds ∧ ds.length + 1 = n ∧
  match f ds with
  | none => False
  | some (.ok d) => ∀ F' H', Same F F' → Same F' H' → (∀ b o, b ≠ a → H b = some o → (¬ ∃ q, IsTab K b q) → H' b = some o) → (∀ b, b ≠ a → F' b ≠ none → F b ≠ none ∨ H b = none) → Tabs K F' H' → Rep K mg F' (.ref a) d → Q .non H'
  | some (.error x) => ∀ F' H', Same F F' → Same F' H' → (∀ b o, b ≠ a → H b = some o → (¬ ∃ q, IsTab K b q) → H' b = some o) → (∀ b, b ≠ a → F' b ≠ none → F b ≠ none ∨ H b = none) → Tabs K F' H' → ∀ cls dd, XRep K mg F' cls dd x → E cls dd H'
end
@[simp] def mkSl (n : Nat) (ss : List S) : Sl := ss.map some ++ List.replicate (n - ss.length) none
@[simp] def exitP (r : Option (Fl × Sl × List O)) : Option (Except XD D) := match r with
  | some (.rt s, _, st) => (deepD 6 st s).map .ok
  | some (.nx, _, _) => some (.ok .non)
  | some (.xc x, _, _) => some (.error x)
  | _ => none
@[simp] def exitK (r : Option (Fl × Sl × List O)) : Option (Except XD S × List O) := match r with
  | some (.rt s, _, st) => some (.ok s, st)
  | some (.nx, _, st) => some (.ok (.val .non), st)
  | some (.xc x, _, st) => some (.error x, st)
  | _ => none
/-- the data function of a body with n names -/
@[simp] def asP (n : Nat) (b : MS) : PF := fun ds => exitP (b (mkSl n (ds.map .val)) [])
@[simp] def asK (n : Nat) (b : MS) : OF := fun ss st => exitK (b (mkSl n ss) st)
section
variable {K : PySem.W.Frag} {mg : Str → Option Value} {F : Hp} {rho : List Addr}
theorem slots_start {N : List Str} {vs : List V} {ss : List S} (r : RepSs K mg F rho vs ss) : Slots K mg F rho (L2.start N vs) (mkSl N.length ss) := by
  refine ⟨?_, fun i d q => ?_⟩
  · unfold L2.start mkSl; simp only [List.length_append, List.length_map, List.length_replicate, r.length]
  · unfold mkSl at q
    by_cases hi : i < ss.length
    · rw [List.getElem?_append_left (by simpa using hi), List.getElem?_map] at q
      cases e : ss[i]? with
      | none => rw [e] at q; cases q
      | some s =>
        rw [e] at q; cases q
        obtain ⟨v, hv, rv⟩ := r.get e
        refine ⟨v, ?_, rv⟩
        unfold L2.start
        rw [List.getElem?_append_left (by simpa [r.length] using hi), List.getElem?_map, hv]; rfl
    · rw [List.getElem?_append_right (by simpa using hi), List.getElem?_replicate] at q
      split at q <;> cases q
end
section
variable {P : Program} {w : World} {K : PySem.W.Frag} {mg : Str → Option Value} {base : Heap} {x qual : Str} {stm : Stmt} {f : Addr} {fd : FuncData} {N ps : List Str} {k : Nat} {b : MS} {dvs : List V} {kws : List (Str × V)}
/-- a body's derivation, wherever it is entered -/
abbrev Body (P : Program) (w : World) (K : PySem.W.Frag) (mg : Str → Option Value) (base : Heap) (N : List Str) (qual : Str) (stm : Stmt) (f : Addr) (k : Nat) (b : MS) : Prop :=
  ∀ (cdv : Value) (A : Around) (outer : List Env) (s : Shared) (H : Hp) (E : XK) (B : Hp), Room k (A.deeper (PyProof.Rows.envOfC qual (defScope stm) s.heap.objs.size f cdv)) →
    QSs (cxOf (L2N.CX P w) P w K mg base N qual (defScope stm) f cdv A outer s H E) B (fun c d _ H => E c d H) (defBody stm) b
theorem fn_P (Fn : FunD K x qual (defArgs stm) (defBody stm) (defScope stm) dvs kws f fd) (Sc : FnScope N ps (defScope stm)) (hb : Body P w K mg base N qual stm f k b) : FnOk P w K mg base (L2N.CX P w) (k + 1) f fd ps (spP K mg ps.length (asP N.length b)) := by
  refine Fn.ok Sc (fun vs H Q E h => ?_) (fun cdv A outer s H vs Q E hr h => ?_)
  · obtain ⟨F, ds, _, _, r, l, _⟩ := h
    rw [r.length]; exact l
  · obtain ⟨F, ds, e, tb, r, l, h⟩ := h
    refine ⟨_, hb cdv A outer s H E (less K H F) hr, F, [], _, [], Core.start e tb, slots_start r.vals, ?_⟩
    unfold asP exitP at h
    match q : b (mkSl N.length (ds.map .val)) [] with
    | none => rw [q] at h; exact h
    | some (.nx, sl', st') =>
      rw [q] at h
      exact fun F' rho' H' s' e1 p1 c1 S1 => h F' H' e1 c1.same (c1.all e e1) c1.fresh c1.tb .non .non
    | some (.bk, sl', st') => rw [q] at h; exact h.elim
    | some (.ct, sl', st') => rw [q] at h; exact h.elim
    | some (.xc z, sl', st') =>
      rw [q] at h
      exact fun F' rho' H' s' e1 p1 c1 S1 cls dd xr => h F' H' e1 c1.same (c1.all e e1) c1.fresh c1.tb cls dd xr
    | some (.rt s, sl', st') =>
      rw [q] at h
      intro F' rho' H' s' e1 p1 c1 S1 v rv
      dsimp only at h
      match q2 : deepD 6 st' s with
      | none => rw [q2] at h; exact h.elim
      | some d =>
        rw [q2] at h
        exact h (shut F' rho' H') H' (e1.trans shut_same) (shut_in c1) (c1.all e e1) (less_fresh (shut_tb c1) (shut_apart c1)) (shut_tb c1) v (deep_ok c1 6 rv q2)
theorem fn_O (Fn : FunD K x qual (defArgs stm) (defBody stm) (defScope stm) dvs kws f fd) (Sc : FnScope N ps (defScope stm)) (hb : Body P w K mg base N qual stm f k b) : FnOk P w K mg base (L2N.CX P w) (k + 1) f fd ps (spO K mg ps.length (asK N.length b)) := by
  refine Fn.ok Sc (fun vs H Q E h => ?_) (fun cdv A outer s H vs Q E hr h => ?_)
  · obtain ⟨B, F, rho, st, ss, _, r, l, _⟩ := h
    rw [r.length]; exact l
  · obtain ⟨B, F, rho, st, ss, c, r, l, h⟩ := h
    refine ⟨_, hb cdv A outer s H E B hr, F, rho, _, st, c, slots_start r, ?_⟩
    unfold asK exitK at h
    match q : b (mkSl N.length ss) st with
    | none => rw [q] at h; exact h
    | some (.nx, sl', st') =>
      rw [q] at h
      exact fun F' rho' H' s' e1 p1 c1 S1 => h F' rho' H' e1 p1 c1 .non (.val .non)
    | some (.bk, sl', st') => rw [q] at h; exact h.elim
    | some (.ct, sl', st') => rw [q] at h; exact h.elim
    | some (.xc z, sl', st') =>
      rw [q] at h
      exact fun F' rho' H' s' e1 p1 c1 S1 cls dd xr => h F' rho' H' e1 p1 c1 cls dd xr
    | some (.rt s, sl', st') =>
      rw [q] at h
      exact fun F' rho' H' s' e1 p1 c1 S1 v rv => h F' rho' H' e1 p1 c1 v rv
end
end Cl
namespace L2
open PySem PySem.Spec PyProof.Rows
section
variable {X : Cx} {CX : CXT} {k : Nat} {f C : Addr} {fd : FuncData} {ps : List Str} {sp : Sp} {dvs : List V} {ds : List Value} {E : St → XK} {x m : Str} {p pos apos : Pos} {e o : Expr} {es : List Expr} {ta : TE} {t : TA}
/-- o.m(e, ..), what is raised wished for at the slots -/
def tMethSD (C : Addr) (m : Str) (sp : Sp) (dvs : List V) (E : St → XK) (ta : TE) (t : TA) : TE := fun σ H Q => ta σ H fun x H1 => ∃ a dx fs, x = .ref a ∧ H1 a = some (.ins C dx fs) ∧ fs.lookup m = none ∧
  t σ H1 fun vs H2 => sp (x :: (vs ++ dvs)) H2 Q (E σ)
theorem pe_methSD {pl : Sem Bool} (he : PE X o ta) (c : Cls X.K C) (hm : Meth X.K C m f) (F : FnOk X.prog X.w X.K X.mg X.base CX k f fd ps sp) (hr : Room k X.A) (hb : Binds X.K fd ps ds) (hd : Vals dvs ds) (hx : ∀ σ, PassesAt CX X σ (E σ)) (ha : PA X (e :: es) t)
    (hst : starEach (e :: es) X.env = (false, eval e X.env) :: starEach es X.env := by rfl) (hpl : (backTo pos (starEach es X.env)).any (·.1) = false := by rfl)
    (ht : eval (.Call (.Attribute o m apos) (e :: es) [] pos) X.env = (do
      let ov ← eval o X.env
      standAt apos.atName
      let (f, first) ← holding [ov] (getMethod ov m pl)
      callWith pos f first (backTo pos (starEach (e :: es) X.env)) (backToKw pos (keywordEach [] X.env))) := by rfl) :
    PE X (.Call (.Attribute o m apos) (e :: es) [] pos) (tMethSD C m sp dvs E ta t) := by
  refine ⟨fun pins s σ H Q I h => ?_⟩
  refine PySem.W.methodCall_KW (pl := pl) (thn (he.run pins s σ H _ I h) fun u s1 ⟨x, H1, I1, rx, a, dx, fs, ex, ea, l, q⟩ => ?_) ht
  subst ex
  obtain rfl : u = Value.ref a := rx
  refine getmeth_ok I1 ea c hm l ?_
  refine PySem.W.callWith_K (first := [.ref a]) (h₀ := X.base) I.ok.mod.kin hm.kp (thn (ha.run pos pins s1 σ H1 _ I1 q) fun us s2 ⟨vs, H2, I2, r, q2⟩ => ⟨I2.kIn, ?_⟩) hst hpl
  exact run_fnSD (us := .ref a :: us) (vs := .ref a :: vs) F hr hb hd (hx σ) I2 (.cons rfl r) q2
theorem pe_methSD0 {pl : Sem Bool} (he : PE X o ta) (c : Cls X.K C) (hm : Meth X.K C m f) (F : FnOk X.prog X.w X.K X.mg X.base CX k f fd ps sp) (hr : Room k X.A) (hb : Binds X.K fd ps ds) (hd : Vals dvs ds) (hx : ∀ σ, PassesAt CX X σ (E σ))
    (ht : eval (.Call (.Attribute o m apos) [] [] pos) X.env = (do
      let ov ← eval o X.env
      standAt apos.atName
      let (f, first) ← holding [ov] (getMethod ov m pl)
      callWith pos f first (backTo pos (starEach [] X.env)) (backToKw pos (keywordEach [] X.env))) := by rfl) :
    PE X (.Call (.Attribute o m apos) [] [] pos) (tMethSD C m sp dvs E ta tNil) := by
  refine ⟨fun pins s σ H Q I h => ?_⟩
  refine PySem.W.methodCall_KW (pl := pl) (thn (he.run pins s σ H _ I h) fun u s1 ⟨x, H1, I1, rx, a, dx, fs, ex, ea, l, q⟩ => ?_) ht
  subst ex
  obtain rfl : u = Value.ref a := rx
  refine getmeth_ok I1 ea c hm l ?_
  exact PySem.W.callWith_K0 (first := [.ref a]) I1.kIn hm.kp (run_fnSD (us := [.ref a]) (vs := [.ref a]) F hr hb hd (hx σ) I1 (.cons rfl .nil) q)
/-- C(..), what is raised wished for at the slots -/
def tMakeSD (C : Addr) (sp : Sp) (dvs : List V) (E : St → XK) (t : TA) : TE := fun σ H Q => t σ H fun vs H1 => ∀ x dx, H1 x = none → H1 dx = none → dx ≠ x →
  sp (.ref x :: (vs ++ dvs)) (upd (upd H1 dx (.own x)) x (.ins C dx [])) (fun v H2 => v = .non ∧ Q (.ref x) H2) (E σ)
theorem run_makeSD {pins : List (Addr × Obj)} {σ : St} {H : Hp} {s : Shared} {Q : VK} {us : List Value} {vs : List V} (M : Mk X.K C f) (F : FnOk X.prog X.w X.K X.mg X.base CX k f fd ps sp) (hr : Room (k + 1) X.A) (hb : Binds X.K fd ps ds) (hd : Vals dvs ds)
    (hx : PassesAt CX X σ (E σ)) (I : Inv X pins σ H s) (r : Vals vs us)
    (h : ∀ x dx, H x = none → H dx = none → dx ≠ x → sp (.ref x :: (vs ++ dvs)) (upd (upd H dx (.own x)) x (.ins C dx [])) (fun v H2 => v = .non ∧ Q (.ref x) H2) (E σ)) :
    wpAny (model X.prog X.w) X.A (call (.ref C) us) (EP X pins σ Q) X.xe s := by
  have hq := h (s.heap.objs.size + 1) s.heap.objs.size (I.hok.fresh (Nat.le_succ _)) (I.hok.fresh (Nat.le_refl _)) (Nat.ne_of_lt (Nat.lt_succ_self _))
  have I2 := Inv.made (C := C) I
  have r2 : Vals (V.ref (s.heap.objs.size + 1) :: (vs ++ dvs)) (Value.ref (s.heap.objs.size + 1) :: (us ++ ds)) := .cons rfl (r.append hd)
  have hl : (Value.ref (s.heap.objs.size + 1) :: us ++ ds).length = ps.length := by
    have e := r2.length
    rw [F.len _ _ _ _ hq] at e
    exact e.symm
  refine wpAny_call (make_map (f := f) I.kIn M.makes M.init (beq_iff_eq.mp M.fn) (codeAny_mono (F.run _ X.stack _ _ ⟨Value.ref (s.heap.objs.size + 1) :: us, []⟩ (Value.ref (s.heap.objs.size + 1) :: (us ++ ds)) _ _ (E σ) (hr.make C us [])
    (I2.env0.make C us []) (hb _ (Value.ref (s.heap.objs.size + 1) :: us) I2.kIn hl) r2 hq) fun r s' hq' => ?_))
  cases r with
  | error e => exact hx pins _ _ e s' I2 hq'
  | ok fl =>
    cases fl with
    | ret u =>
      obtain ⟨v, H', I3, rv, ev, q3⟩ := I2.after hq'
      subst ev
      exact ⟨rv, ⟨V.ref (s.heap.objs.size + 1), H', I3, rfl, q3⟩⟩
    | next => exact False.elim hq'
    | brk => exact False.elim hq'
    | cont => exact False.elim hq'
theorem pe_makeSD (M : Mk X.K C f) (F : FnOk X.prog X.w X.K X.mg X.base CX k f fd ps sp) (hr : Room (k + 1) X.A) (hg : Gl X x) (hm : X.mg x = some (.ref C)) (hb : Binds X.K fd ps ds) (hd : Vals dvs ds) (hx : ∀ σ, PassesAt CX X σ (E σ))
    (ha : PA X (e :: es) t) (hdb : (x == ("__debug__" : Str)) = false := by decide) (he : starEach (e :: es) X.env = (false, eval e X.env) :: starEach es X.env := by rfl) (hpl : (backTo pos (starEach es X.env)).any (·.1) = false := by rfl) :
    PE X (.Call (.Name x p) (e :: es) [] pos) (tMakeSD C sp dvs E t) := by
  refine ⟨fun pins s σ H Q I h => ?_⟩
  refine wpAny_Call_Name_kw (ld_glob I hg hm ?_ hdb)
  refine PySem.W.callWith_K (h₀ := X.base) I.ok.mod.kin M.kp (thn (ha.run pos pins s σ H _ I h) fun us s1 ⟨vs, H1, I1, r, q⟩ => ⟨I1.kIn, ?_⟩) he hpl
  exact run_makeSD M F hr hb hd (hx σ) I1 r q
end
end L2
namespace Cl
open PySem L2
@[simp] def gCallP (n : Nat) (f : PF) (dds : List D) (ss : List S) : M S := (toDs ss).bind fun ds => fun st => if (ds ++ dds).length = n then (match f (ds ++ dds) with
  | none => none
  | some (.ok d) => some (.ok (.val d), st)
  | some (.error x) => some (.error x, st)) else none
@[simp] def gCallO (n : Nat) (f : OF) (dds : List D) (ss : List S) : M S := fun st => if (ss ++ dds.map S.val).length = n then f (ss ++ dds.map S.val) st else none
section
variable {K : PySem.W.Frag} {mg : Str → Option Value} {B F : Hp} {rho : List Addr} {st : List O} {H : Hp} {vs dvs : List V} {ss : List S} {dds : List D} {n : Nat} {Q : VK} {E : XK}
theorem callP_post {f : PF} (c : Core K mg B F rho st H) (rs : RepSs K mg F rho vs ss) (rd : ∀ F, Reps K mg F dvs dds) (h : Post K mg B (fun F' rho' H' d => ∀ v, RepS K mg F' rho' v d → Q v H') (fun c d H' => E c d H') F rho (gCallP n f dds ss st)) :
    spP K mg n f (vs ++ dvs) H Q E := by
  obtain ⟨F1, st1, ds, e1, c1, r1, st2, c2, e2, p2, h2⟩ := toDs_ok c rs h.bind
  split at h2
  · rename_i hl
    refine ⟨F1, ds ++ dds, c2.same, c2.tb, r1.append (rd F1), hl, ?_⟩
    match q : f (ds ++ dds) with
    | none => rw [q] at h2; exact h2.elim
    | some (.ok d) => rw [q] at h2; exact fun F' H' e e' e3 fr tb v rv => h2 F' rho H' e (Pre.refl _) (c2.grow e e' e3 fr tb) v (.val rv)
    | some (.error x) => rw [q] at h2; exact fun F' H' e e' e3 fr tb cls dd xr => h2 F' rho H' e (Pre.refl _) (c2.grow e e' e3 fr tb) cls dd xr
  · exact h2.elim
theorem callO_post {f : OF} (c : Core K mg B F rho st H) (rs : RepSs K mg F rho vs ss) (rd : ∀ F, Reps K mg F dvs dds) (h : Post K mg B (fun F' rho' H' d => ∀ v, RepS K mg F' rho' v d → Q v H') (fun c d H' => E c d H') F rho (gCallO n f dds ss st)) :
    spO K mg n f (vs ++ dvs) H Q E := by
  unfold gCallO at h
  split at h
  · rename_i hl
    exact ⟨B, F, rho, st, _, c, rs.append (rd F).vals, hl, h⟩
  · exact h.elim
end
section
variable {X : Cx} {B : Hp} {W : WX} {k n : Nat} {fa C : Addr} {fd : FuncData} {ps : List Str} {dvs : List V} {dsv : List Value} {dds : List D} {x m : Str} {p pos apos : Pos} {e o : Expr} {es : List Expr} {fs : MA} {fo : ME} {f : PF} {g : OF}
theorem qe_callP (Fn : FnOk X.prog X.w X.K X.mg X.base (L2N.CX X.prog X.w) k fa fd ps (spP X.K X.mg n f)) (hr : Room k X.A) (hm : X.mg x = some (.ref fa)) (hk : PySem.W.keepIn X.K (.ref fa) = true) (hb : Binds X.K fd ps dsv) (hd : Vals dvs dsv) (rd : ∀ F, Reps X.K X.mg F dvs dds) (tk : Takes X W)
    (ha : QA X B W (e :: es) fs) (hg : Gl X x := by rfl) (hdb : (x == ("__debug__" : Str)) = false := by decide) (he : starEach (e :: es) X.env = (false, eval e X.env) :: starEach es X.env := by rfl) (hpl : (backTo pos (starEach es X.env)).any (·.1) = false := by rfl) :
    QE X B W (.Call (.Name x p) (e :: es) [] pos) (eArgs (gCallP n f dds) fs) :=
  PEimp (pe_callSD Fn hr hg hm hk hb hd (fun σ => passAt tk σ) ha hdb he hpl) fun s H Q q => args_of q fun F rho st H vs ds c rs p => callP_post c rs rd p
theorem qe_callO (Fn : FnOk X.prog X.w X.K X.mg X.base (L2N.CX X.prog X.w) k fa fd ps (spO X.K X.mg n g)) (hr : Room k X.A) (hm : X.mg x = some (.ref fa)) (hk : PySem.W.keepIn X.K (.ref fa) = true) (hb : Binds X.K fd ps dsv) (hd : Vals dvs dsv) (rd : ∀ F, Reps X.K X.mg F dvs dds) (tk : Takes X W)
    (ha : QA X B W (e :: es) fs) (hg : Gl X x := by rfl) (hdb : (x == ("__debug__" : Str)) = false := by decide) (he : starEach (e :: es) X.env = (false, eval e X.env) :: starEach es X.env := by rfl) (hpl : (backTo pos (starEach es X.env)).any (·.1) = false := by rfl) :
    QE X B W (.Call (.Name x p) (e :: es) [] pos) (eArgs (gCallO n g dds) fs) :=
  PEimp (pe_callSD Fn hr hg hm hk hb hd (fun σ => passAt tk σ) ha hdb he hpl) fun s H Q q => args_of q fun F rho st H vs ds c rs p => callO_post c rs rd p
end
/-- the attributes of an instance of one of the classes ns -/
@[simp] def insOf (ns : List Str) : S → List O → Option (List (Str × S))
  | .val (.ins n fs), _ => if n ∈ ns then some (fs.map fun p => (p.1, .val p.2)) else none
  | .obj k, st => match st[k]? with
    | some (.ins n fs) => if n ∈ ns then some fs else none
    | _ => none
  | _, _ => none
section
variable {K : PySem.W.Frag} {mg : Str → Option Value} {B F : Hp} {rho : List Addr} {st : List O} {H : Hp} {v : V} {d : S} {ns : List Str}
theorem RepF.vals : ∀ {xs : List (Str × V)} {us : List (Str × D)}, RepF K mg F xs us → RepSF K mg F rho xs (us.map fun p => (p.1, .val p.2))
  | _, _, .nil => .nil
  | _, _, .cons r t => .cons (.val r) (RepF.vals t)
theorem ins_at {fs : List (Str × S)} (c : Core K mg B F rho st H) (r : RepS K mg F rho v d) (h : insOf ns d st = some fs) :
    ∃ a n C dx fvs, v = .ref a ∧ n ∈ ns ∧ mg n = some (.ref C) ∧ H a = some (.ins C dx fvs) ∧ RepSF K mg F rho fvs fs := by
  cases r with
  | @obj k a q =>
    match e : st[k]? with
    | some (.ins n l) =>
      simp only [insOf, e] at h
      split at h
      · rename_i hn
        cases h
        obtain ⟨_, C, dx, fvs, hm, x, y⟩ := c.own k a _ q e
        exact ⟨a, n, C, dx, fvs, rfl, hn, hm, x, y⟩
      · cases h
    | some (.frz _) => simp only [insOf, e] at h; cases h
    | some (.lst _) => simp only [insOf, e] at h; cases h
    | some (.dct _) => simp only [insOf, e] at h; cases h
    | some (.dcn _) => simp only [insOf, e] at h; cases h
    | some (.tup _) => simp only [insOf, e] at h; cases h
    | none => simp only [insOf, e] at h; cases h
  | val r =>
    cases r with
    | @ins a C dx n fvs fs' hm x y =>
      simp only [insOf] at h
      split at h
      · rename_i hn
        cases h
        exact ⟨a, n, C, dx, fvs, rfl, hn, hm, c.same _ _ x, y.vals⟩
      · cases h
    | _ => cases h
end
/-- of the classes ns: plain, and without an attribute f of their own -/
def ClsF (K : PySem.W.Frag) (mg : Str → Option Value) (ns : List Str) (f : Str) : Prop := ∀ n ∈ ns, ∀ C, mg n = some (.ref C) → Cls K C ∧ NoAttr K C f
@[simp] def gFld (ns : List Str) (f : Str) (x : S) : M S := fun st => match insOf ns x st with
  | some fs => match fs.lookup f with
    | some s => some (.ok (rsvS s st), st)
    | none => none
  | none => none
@[simp] def eFld (ns : List Str) (f : Str) (a : ME) : ME := fun sl => (a sl).bind (gFld ns f)
section
variable {K : PySem.W.Frag} {mg : Str → Option Value} {B : Hp} {W : WX}
/-- an expression, then something by its value -/
theorem one_of {fa : ME} {g : Sl → S → M S} {s : St} {H : Hp} {Q : VK} {R : V → Hp → Prop} (h : tE K mg B W (fun sl => (fa sl).bind (g sl)) s H Q)
    (hR : ∀ F rho sl st H x dx, Core K mg B F rho st H → Slots K mg F rho s sl → RepS K mg F rho x dx → Post K mg B (fun F' rho' H' d => ∀ v, RepS K mg F' rho' v d → Q v H') (fun c d H' => W c d s H') F rho (g sl dx st) → R x H) :
    tE K mg B W fa s H R := by
  obtain ⟨F, rho, sl, st, c, S, h⟩ := h
  refine ⟨F, rho, sl, st, c, S, h.bind.mono (Same.refl _) (Pre.refl _) (fun F1 r1 H1 dx e1 p1 h1 x rx => ?_) fun _ _ _ z => z⟩
  obtain ⟨st1, c1, _, _, h1⟩ := h1
  exact hR F1 r1 sl st1 H1 x dx c1 (S.mono e1 p1) rx h1
end
section
variable {X : Cx} {B : Hp} {W : WX} {e : Expr} {fa : ME} {f : Str} {pos : Pos} {ns : List Str}
theorem qe_fld (hc : ClsF X.K X.mg ns f) (he : QE X B W e fa) (hb : attributeBase e f X.env (eval e X.env) = eval e X.env := by rfl) : QE X B W (.Attribute e f pos) (eFld ns f fa) := by
  refine PEimp (pe_fld he hb) fun s H Q q => one_of q fun F rho sl st H x dx c S rx h => ?_
  unfold gFld at h
  match e1 : insOf ns dx st with
  | none => rw [e1] at h; exact h.elim
  | some fs =>
    rw [e1] at h
    dsimp only at h
    match e2 : fs.lookup f with
    | none => rw [e2] at h; exact h.elim
    | some d =>
      rw [e2] at h
      obtain ⟨a, n, C, dx', fvs, ev, hn, hm, hH, rf⟩ := ins_at c rx e1
      obtain ⟨v, hv, rv⟩ := rf.lookup e2
      exact ⟨a, C, dx', fvs, v, ev, hH, (hc n hn C hm).1, (hc n hn C hm).2, hv, h.done c v (rsv_ok c rv)⟩
/-- o.f = value, o of the store -/
@[simp] def sFldSet (ns : List Str) (f : Str) (o v : ME) : MS := sBind v fun y => sBind o fun x => fun sl st => match x with
  | .obj k => match st[k]? with
    | some (.ins n fs) => if n ∈ ns ∧ fs.length < 1000 then some (.nx, sl, st.set k (.ins n (putD f y fs))) else none
    | _ => none
  | _ => none
theorem putD_rep {K : PySem.W.Frag} {mg : Str → Option Value} {F : Hp} {rho : List Addr} {v : V} {d : S} (r : RepS K mg F rho v d) : ∀ {vs : List (Str × V)} {ds : List (Str × S)}, RepSF K mg F rho vs ds → RepSF K mg F rho (putF f v vs) (putD f d ds)
  | _, _, .nil => .cons r .nil
  | _, _, .cons (f := g) q t => by
    unfold putF putD
    by_cases h : g = f
    · rw [if_pos h, if_pos h, h]; exact .cons r t
    · rw [if_neg h, if_neg h]; exact .cons q (putD_rep r t)
theorem qs_fld {o value : Expr} {fo fv : ME} {pos' : Pos} (hc : ClsF X.K X.mg ns f) (ho : QE X B W o fo) (hv : QE X B W value fv) (hs : swapsWith value (some (.Attribute o f pos')) pos.line X.env = pure false := by rfl) : QS X B W (.Assign [.Attribute o f pos'] value pos) (sFldSet ns f fo fv) := by
  refine PSimp (ps_fld ho hv hs) fun N s H h => stm_of h fun F rho sl st H y dy c S ry p => ?_
  refine ⟨F, rho, sl, st, c, S, (PostS.bind S p).mono (Same.refl _) (Pre.refl _) (fun F1 r1 H1 dx e1 p1 h1 x rx => ?_) fun _ _ _ z => z⟩
  obtain ⟨st1, c1, _, _, h1⟩ := h1
  cases rx with
  | val _ => exact h1.elim
  | @obj k a q =>
    dsimp only at h1
    match e : st1[k]? with
    | some (.ins n fs) =>
      rw [e] at h1
      dsimp only at h1
      split at h1
      · rename_i hn
        obtain ⟨hF, C, dx, fvs, hm, hH, rf⟩ := c1.own k a _ q e
        refine ⟨a, C, dx, fvs, rfl, hH, (hc n hn.1 C hm).1, (hc n hn.1 C hm).2, by rw [rf.length]; exact hn.2, ?_⟩
        exact h1.nx (c1.write q hF ⟨hF, C, dx, _, hm, upd_same, putD_rep (ry.mono e1 p1) rf⟩) (S.mono e1 p1)
      · exact h1.elim
    | some (.frz _) => rw [e] at h1; exact h1.elim
    | some (.lst _) => rw [e] at h1; exact h1.elim
    | some (.dct _) => rw [e] at h1; exact h1.elim
    | some (.dcn _) => rw [e] at h1; exact h1.elim
    | some (.tup _) => rw [e] at h1; exact h1.elim
    | none => rw [e] at h1; exact h1.elim
end
end Cl
namespace Cl
open PySem L2
@[simp] def chkM (ns : List Str) (m : Str) (x : S) : M Unit := fun st => match insOf ns x st with
  | some fs => if (fs.lookup m).isNone = true then some (.ok (), st) else none
  | none => none
@[simp] def eMeth (ns : List Str) (m : Str) (g : List S → M S) (a : ME) (fs : MA) : ME := fun sl => (a sl).bind fun x => (chkM ns m x).bind fun _ => (fs sl).bind fun ss => g (x :: ss)
section
variable {K : PySem.W.Frag} {mg : Str → Option Value} {B : Hp} {W : WX}
theorem meth_of {c m : Str} {C : Addr} {fa : ME} {fs : MA} {g : List S → M S} {s : St} {H : Hp} {Q : VK} {R : V → List V → Hp → Prop} (hc : mg c = some (.ref C)) (h : tE K mg B W (eMeth [c] m g fa fs) s H Q)
    (hR : ∀ F rho st H x dx vs ds, Core K mg B F rho st H → RepS K mg F rho x dx → RepSs K mg F rho vs ds → Post K mg B (fun F' rho' H' d => ∀ v, RepS K mg F' rho' v d → Q v H') (fun c d H' => W c d s H') F rho (g (dx :: ds) st) → R x vs H) :
    tE K mg B W fa s H fun x H1 => ∃ a dx fv, x = .ref a ∧ H1 a = some (.ins C dx fv) ∧ fv.lookup m = none ∧ tA K mg B W fs s H1 fun vs H2 => R x vs H2 := by
  refine one_of h fun F rho sl st H x dx c' S' rx hp => ?_
  unfold M.bind chkM at hp
  match e1 : insOf [c] dx st with
  | none => rw [e1] at hp; exact hp.elim
  | some fl =>
    rw [e1] at hp
    dsimp only at hp
    by_cases hn : (fl.lookup m).isNone = true
    · rw [if_pos hn] at hp
      dsimp only at hp
      obtain ⟨a, n, C', dx', fvs, ev, hn', hm, hH, rf⟩ := ins_at c' rx e1
      have en : n = c := by simpa using hn'
      subst en
      rw [hc] at hm; cases hm
      refine ⟨a, dx', fvs, ev, hH, rf.lookup_none (Option.isNone_iff_eq_none.mp hn), ?_⟩
      have h' : Post K mg B (fun F' rho' H' d => ∀ v, RepS K mg F' rho' v d → Q v H') (fun c d H' => W c d s H') F rho (((fs sl).bind fun ss => g (dx :: ss)) st) := hp
      refine ⟨F, rho, sl, st, c', S', h'.bind.mono (Same.refl _) (Pre.refl _) (fun F1 r1 H1 ds e1 p1 h1 vs rs => ?_) fun _ _ _ z => z⟩
      obtain ⟨st1, c1, _, _, h1⟩ := h1
      exact hR F1 r1 st1 H1 x dx vs ds c1 (rx.mono e1 p1) rs h1
    · rw [if_neg hn] at hp; exact hp.elim
end
section
variable {X : Cx} {B : Hp} {W : WX} {k n : Nat} {fa C : Addr} {fd : FuncData} {ps : List Str} {dvs : List V} {dsv : List Value} {dds : List D} {x c m : Str} {p pos apos : Pos} {e o : Expr} {es : List Expr} {fs : MA} {fo : ME} {f : PF} {g : OF} {pl : Sem Bool}
theorem qe_methO (hc : X.mg c = some (.ref C)) (cl : Cls X.K C) (hm : Meth X.K C m fa) (Fn : FnOk X.prog X.w X.K X.mg X.base (L2N.CX X.prog X.w) k fa fd ps (spO X.K X.mg n g)) (hr : Room k X.A) (hb : Binds X.K fd ps dsv) (hd : Vals dvs dsv) (rd : ∀ F, Reps X.K X.mg F dvs dds) (tk : Takes X W)
    (ho : QE X B W o fo) (ha : QA X B W (e :: es) fs) (hst : starEach (e :: es) X.env = (false, eval e X.env) :: starEach es X.env := by rfl) (hpl : (backTo pos (starEach es X.env)).any (·.1) = false := by rfl)
    (ht : eval (.Call (.Attribute o m apos) (e :: es) [] pos) X.env = (do
      let ov ← eval o X.env
      standAt apos.atName
      let (f, first) ← holding [ov] (getMethod ov m pl)
      callWith pos f first (backTo pos (starEach (e :: es) X.env)) (backToKw pos (keywordEach [] X.env))) := by rfl) :
    QE X B W (.Call (.Attribute o m apos) (e :: es) [] pos) (eMeth [c] m (gCallO n g dds) fo fs) :=
  PEimp (pe_methSD (pl := pl) ho cl hm Fn hr hb hd (fun σ => passAt tk σ) ha hst hpl ht) fun s H Q q => meth_of hc q fun F rho st H x dx vs ds c' rx rs p => callO_post c' (.cons rx rs) rd p
theorem tA_nil {K : PySem.W.Frag} {mg : Str → Option Value} {s : St} {H : Hp} {R : List V → Hp → Prop} (h : tA K mg B W aNil s H R) : tNil s H R := by
  obtain ⟨F, rho, sl, st, c, S', h⟩ := h
  exact h F rho H (Same.refl _) (Pre.refl _) c [] .nil
theorem qe_methO0 (hc : X.mg c = some (.ref C)) (cl : Cls X.K C) (hm : Meth X.K C m fa) (Fn : FnOk X.prog X.w X.K X.mg X.base (L2N.CX X.prog X.w) k fa fd ps (spO X.K X.mg n g)) (hr : Room k X.A) (hb : Binds X.K fd ps dsv) (hd : Vals dvs dsv) (rd : ∀ F, Reps X.K X.mg F dvs dds) (tk : Takes X W)
    (ho : QE X B W o fo)
    (ht : eval (.Call (.Attribute o m apos) [] [] pos) X.env = (do
      let ov ← eval o X.env
      standAt apos.atName
      let (f, first) ← holding [ov] (getMethod ov m pl)
      callWith pos f first (backTo pos (starEach [] X.env)) (backToKw pos (keywordEach [] X.env))) := by rfl) :
    QE X B W (.Call (.Attribute o m apos) [] [] pos) (eMeth [c] m (gCallO n g dds) fo aNil) :=
  PEimp (pe_methSD0 (pl := pl) ho cl hm Fn hr hb hd (fun σ => passAt tk σ) ht) fun s H Q q => by
    obtain ⟨F, rho, sl, st, c', S', h⟩ := meth_of (R := fun x vs H => spO X.K X.mg n g (x :: (vs ++ dvs)) H Q (WE W s)) hc q fun F rho st H x dx vs ds c' rx rs p => callO_post c' (.cons rx rs) rd p
    exact ⟨F, rho, sl, st, c', S', h.mono (Same.refl _) (Pre.refl _) (fun F1 r1 H1 d e1 p1 h1 v rv => let ⟨a, dx, fv, x1, x2, x3, x4⟩ := h1 v rv; ⟨a, dx, fv, x1, x2, x3, tA_nil x4⟩) fun _ _ _ z => z⟩
end
@[simp] def gMakeM (n : Nat) (f : PF) (dds : List D) (ss : List S) : M S := (toDs ss).bind fun ds => fun st => if (ds ++ dds).length + 1 = n then (match f (ds ++ dds) with
  | none => none
  | some (.ok d) => some (.ok (.val d), st)
  | some (.error x) => some (.error x, st)) else none
@[simp] def gMakeO (c : Str) (n : Nat) (g : OF) (dds : List D) (ss : List S) : M S := fun st => if (ss ++ dds.map S.val).length + 1 = n then (match g (.obj st.length :: (ss ++ dds.map S.val)) (st ++ [.ins c []]) with
  | some (.ok (.val .non), st') => some (.ok (.obj st.length), st')
  | some (.error x, st') => some (.error x, st')
  | _ => none) else none
section
variable {K : PySem.W.Frag} {mg : Str → Option Value} {B F : Hp} {rho : List Addr} {st : List O} {H : Hp} {vs dvs : List V} {ss : List S} {dds : List D} {n : Nat} {Q : VK} {E : XK} {c : Str} {C : Addr}
theorem makeM_post {f : PF} (hC : mg c = some (.ref C)) (cc : Core K mg B F rho st H) (rs : RepSs K mg F rho vs ss) (rd : ∀ F, Reps K mg F dvs dds) (h : Post K mg B (fun F' rho' H' d => ∀ v, RepS K mg F' rho' v d → Q v H') (fun c d H' => E c d H') F rho (gMakeM n f dds ss st)) :
    ∀ x dx, H x = none → H dx = none → dx ≠ x → spM K mg c n f (.ref x :: (vs ++ dvs)) (upd (upd H dx (.own x)) x (.ins C dx [])) (fun v H2 => v = .non ∧ Q (.ref x) H2) E := by
  intro x dx hx hdx hne
  obtain ⟨F1, st1, ds, e1, c1, r1, st2, c2, e2, p2, h2⟩ := toDs_ok cc rs h.bind
  split at h2
  · rename_i hl
    have fx : F1 x = none := c2.same.free hx
    have fdx : F1 dx = none := c2.same.free hdx
    have up : ∀ (b : Addr) (o : HO), H b = some o → upd (upd H dx (.own x)) x (.ins C dx []) b = some o := fun b o q => by
      rw [upd_ne (ne_of_none q hx), upd_ne (ne_of_none q hdx)]; exact q
    have down : ∀ (b : Addr), b ≠ x → upd (upd H dx (.own x)) x (.ins C dx []) b = none → H b = none := fun b nb q => by
      rw [upd_ne nb] at q
      by_cases z : b = dx
      · rw [z]; exact hdx
      · rw [upd_ne z] at q; exact q
    refine ⟨F1, ds ++ dds, x, vs ++ dvs, rfl, fun b o q => up b o (c2.same b o q), fun P q i => ⟨(c2.tb P q i).1, (c2.tb P q i).2.ext up⟩, fx, ⟨C, dx, hC, upd_same⟩, r1.append (rd F1), hl, ?_⟩
    have key : ∀ F' H', Same F1 F' → Same F' H' → (∀ b o, b ≠ x → upd (upd H dx (.own x)) x (.ins C dx []) b = some o → (¬ ∃ q, IsTab K b q) → H' b = some o) → (∀ b, b ≠ x → F' b ≠ none → F1 b ≠ none ∨ upd (upd H dx (.own x)) x (.ins C dx []) b = none) → Tabs K F' H' → Core K mg B F' rho st2 H' := fun F' H' s1 s2 s3 s4 tb =>
      c2.grow s1 s2 (fun b o q nt => s3 b o (ne_of_none q hx) (up b o q) nt) (fun b q => by
        by_cases z : b = x
        · rw [z]; exact .inr hx
        · rcases s4 b z q with y | y
          · exact .inl y
          · exact .inr (down b z y)) tb
    match q : f (ds ++ dds) with
    | none => rw [q] at h2; exact h2.elim
    | some (.ok d) => rw [q] at h2; exact fun F' H' s1 s2 s3 s4 tb rv => ⟨rfl, h2 F' rho H' s1 (Pre.refl _) (key F' H' s1 s2 s3 s4 tb) _ (.val rv)⟩
    | some (.error y) => rw [q] at h2; exact fun F' H' s1 s2 s3 s4 tb cls dd xr => h2 F' rho H' s1 (Pre.refl _) (key F' H' s1 s2 s3 s4 tb) cls dd xr
  · exact h2.elim
theorem makeO_post {g : OF} (hC : mg c = some (.ref C)) (cc : Core K mg B F rho st H) (rs : RepSs K mg F rho vs ss) (rd : ∀ F, Reps K mg F dvs dds) (h : Post K mg B (fun F' rho' H' d => ∀ v, RepS K mg F' rho' v d → Q v H') (fun c d H' => E c d H') F rho (gMakeO c n g dds ss st)) :
    ∀ x dx, H x = none → H dx = none → dx ≠ x → spO K mg n g (.ref x :: (vs ++ dvs)) (upd (upd H dx (.own x)) x (.ins C dx [])) (fun v H2 => v = .non ∧ Q (.ref x) H2) E := by
  intro x dx hx hdx hne
  unfold gMakeO at h
  split at h
  · rename_i hl
    have hx' : upd H dx (.own x) x = none := by rw [upd_ne (Ne.symm hne)]; exact hx
    have c1 : Core K mg B F rho st (upd H dx (.own x)) := cc.junk hdx
    have c2 : Core K mg B F (rho ++ [x]) (st ++ [.ins c []]) (upd (upd H dx (.own x)) x (.ins C dx [])) := c1.new hx' ⟨c1.same.free hx', C, dx, [], hC, upd_same, .nil⟩
    have hat : (rho ++ [x])[st.length]? = some x := by rw [← cc.len, List.getElem?_append_right (Nat.le_refl _), Nat.sub_self]; rfl
    refine ⟨B, F, rho ++ [x], st ++ [.ins c []], .obj st.length :: (ss ++ dds.map S.val), c2, .cons (.obj hat) ((rs.mono (Same.refl _) (Pre.app _ _)).append (rd F).vals), by simpa using hl, ?_⟩
    match q : g (.obj st.length :: (ss ++ dds.map S.val)) (st ++ [.ins c []]) with
    | none => rw [q] at h; exact h.elim
    | some (.ok (.val d), st') =>
      rw [q] at h ⊢
      cases d with
      | non =>
        intro F' rho' H' s1 p1 c3 v rv
        (cases rv with
          | val rv => cases rv; exact ⟨rfl, h F' rho' H' s1 ((Pre.app _ _).trans p1) c3 _ (.obj (p1 _ _ hat))⟩)
      | _ => exact h.elim
    | some (.ok (.obj k), st') => rw [q] at h; exact h.elim
    | some (.error y, st') =>
      rw [q] at h ⊢
      exact fun F' rho' H' s1 p1 c3 cls dd xr => h F' rho' H' s1 ((Pre.app _ _).trans p1) c3 cls dd xr
  · exact h.elim
end
section
variable {X : Cx} {B : Hp} {W : WX} {k n : Nat} {fa C : Addr} {fd : FuncData} {ps : List Str} {dvs : List V} {dsv : List Value} {dds : List D} {x : Str} {p pos : Pos} {e : Expr} {es : List Expr} {fs : MA} {f : PF} {g : OF}
theorem qe_makeM (Mk' : Mk X.K C fa) (Fn : FnOk X.prog X.w X.K X.mg X.base (L2N.CX X.prog X.w) k fa fd ps (spM X.K X.mg x n f)) (hr : Room (k + 1) X.A) (hm : X.mg x = some (.ref C)) (hb : Binds X.K fd ps dsv) (hd : Vals dvs dsv) (rd : ∀ F, Reps X.K X.mg F dvs dds) (tk : Takes X W)
    (ha : QA X B W (e :: es) fs) (hg : Gl X x := by rfl) (hdb : (x == ("__debug__" : Str)) = false := by decide) (he : starEach (e :: es) X.env = (false, eval e X.env) :: starEach es X.env := by rfl) (hpl : (backTo pos (starEach es X.env)).any (·.1) = false := by rfl) :
    QE X B W (.Call (.Name x p) (e :: es) [] pos) (eArgs (gMakeM n f dds) fs) :=
  PEimp (pe_makeSD Mk' Fn hr hg hm hb hd (fun σ => passAt tk σ) ha hdb he hpl) fun s H Q q => args_of q fun F rho st H vs ds c rs p => makeM_post hm c rs rd p
theorem qe_makeO (Mk' : Mk X.K C fa) (Fn : FnOk X.prog X.w X.K X.mg X.base (L2N.CX X.prog X.w) k fa fd ps (spO X.K X.mg n g)) (hr : Room (k + 1) X.A) (hm : X.mg x = some (.ref C)) (hb : Binds X.K fd ps dsv) (hd : Vals dvs dsv) (rd : ∀ F, Reps X.K X.mg F dvs dds) (tk : Takes X W)
    (ha : QA X B W (e :: es) fs) (hg : Gl X x := by rfl) (hdb : (x == ("__debug__" : Str)) = false := by decide) (he : starEach (e :: es) X.env = (false, eval e X.env) :: starEach es X.env := by rfl) (hpl : (backTo pos (starEach es X.env)).any (·.1) = false := by rfl) :
    QE X B W (.Call (.Name x p) (e :: es) [] pos) (eArgs (gMakeO x n g dds) fs) :=
  PEimp (pe_makeSD Mk' Fn hr hg hm hb hd (fun σ => passAt tk σ) ha hdb he hpl) fun s H Q q => args_of q fun F rho st H vs ds c rs p => makeO_post hm c rs rd p
end
@[simp] def exitM (r : Option (Fl × Sl × List O)) : Option (Except XD D) := match r with
  | some (.nx, _, st) => (deepD 6 st (.obj 0)).map .ok
  | some (.rt (.val .non), _, st) => (deepD 6 st (.obj 0)).map .ok
  | some (.xc x, _, _) => some (.error x)
  | _ => none
@[simp] def asM (c : Str) (n : Nat) (b : MS) : PF := fun ds => exitM (b (mkSl n (.obj 0 :: ds.map .val)) [.ins c []])
section
variable {P : Program} {w : World} {K : PySem.W.Frag} {mg : Str → Option Value} {base : Heap} {x qual c : Str} {stm : Stmt} {f : Addr} {fd : FuncData} {N ps : List Str} {k : Nat} {b : MS} {dvs : List V} {kws : List (Str × V)}
open Classical in
theorem fn_M (Fn : FunD K x qual (defArgs stm) (defBody stm) (defScope stm) dvs kws f fd) (Sc : FnScope N ps (defScope stm)) (hb : Body P w K mg base N qual stm f k b) : FnOk P w K mg base (L2N.CX P w) (k + 1) f fd ps (spM K mg c ps.length (asM c N.length b)) := by
  refine Fn.ok Sc (fun vs H Q E h => ?_) (fun cdv A outer s H vs Q E hr h => ?_)
  · obtain ⟨F, ds, a, us, rfl, _, _, _, _, r, l, _⟩ := h
    rw [List.length_cons, r.length]; exact l
  · obtain ⟨F, ds, a, us, rfl, e, tb, fa, ⟨C, dx, hC, hH⟩, r, l, h⟩ := h
    have c0 : Core K mg (fun b => if F b = none ∧ b ≠ a ∧ (¬ ∃ q, IsTab K b q) then H b else none) F [a] [.ins c []] H := by
      refine ⟨e, fun b o q => ?_, fun b q => ?_, fun k b q => ?_, by simp, rfl, fun k b o q1 q2 => ?_, fun k b q => ?_, fun P q i => ⟨if_neg (fun z => z.2.2 ⟨q, i⟩), tb P q i⟩⟩
      · split at q
        · exact q
        · cases q
      · rw [if_neg (fun z => q z.1)]
      · have : b = a := by
          cases k with
          | zero => simpa using q.symm
          | succ k => simp at q
        rw [if_neg (fun z => z.2.1 this)]
      · cases k with
        | zero => simp at q1 q2; subst q1; subst q2; exact ⟨fa, C, dx, [], hC, hH, .nil⟩
        | succ k => simp at q1
      · cases k with
        | zero => simp at q; subst q; exact ⟨_, hH, True.intro⟩
        | succ k => simp at q
    have keep : ∀ {F' rho' st' H'}, Same F F' → Core K mg (fun b => if F b = none ∧ b ≠ a ∧ (¬ ∃ q, IsTab K b q) then H b else none) F' rho' st' H' → ∀ b o, b ≠ a → H b = some o → (¬ ∃ q, IsTab K b q) → H' b = some o := fun {F' rho' st' H'} e1 c1 b o nb q nt => by
      cases z : F b with
      | some u =>
        have := e b u z
        rw [q] at this; cases this
        exact c1.same b o (e1 b o z)
      | none => exact c1.frame b o (by rw [if_pos ⟨z, nb, nt⟩]; exact q)
    have new : ∀ {F2 H2 : Hp}, Tabs K F2 H2 → ∀ b, b ≠ a → F2 b ≠ none → (fun b => if F b = none ∧ b ≠ a ∧ (¬ ∃ q, IsTab K b q) then H b else none) b = none → F b ≠ none ∨ H b = none := fun t b nb f2 q => by
      dsimp only at q
      split at q
      · exact .inr q
      · rename_i z; exact .inl fun y => z ⟨y, nb, fun ⟨q2, i⟩ => f2 (t _ _ i).1⟩
    have rs : RepSs K mg F [a] (.ref a :: us) (.obj 0 :: ds.map .val) := .cons (.obj rfl) r.vals
    refine ⟨_, hb cdv A outer s H E _ hr, F, [a], _, _, c0, slots_start rs, ?_⟩
    unfold asM exitM at h
    have fin : ∀ {F' rho' st' H' d}, Same F F' → Pre [a] rho' → Core K mg (fun b => if F b = none ∧ b ≠ a ∧ (¬ ∃ q, IsTab K b q) then H b else none) F' rho' st' H' → deepD 6 st' (.obj 0) = some d →
        Same F (shut F' rho' H') ∧ Same (shut F' rho' H') H' ∧ (∀ b o, b ≠ a → H b = some o → (¬ ∃ q, IsTab K b q) → H' b = some o) ∧ (∀ b, b ≠ a → shut F' rho' H' b ≠ none → F b ≠ none ∨ H b = none) ∧ Tabs K (shut F' rho' H') H' ∧ Rep K mg (shut F' rho' H') (.ref a) d := fun {F' rho' st' H' d} e1 p1 c1 q2 =>
      ⟨e1.trans shut_same, shut_in c1, keep e1 c1, fun b nb q => new (shut_tb c1) b nb q (shut_apart c1 b q), shut_tb c1, deep_ok c1 6 (.obj (p1 0 a rfl)) q2⟩
    match q : b (mkSl N.length (.obj 0 :: ds.map .val)) [.ins c []] with
    | none => rw [q] at h; exact h.elim
    | some (.nx, sl', st') =>
      rw [q] at h
      intro F' rho' H' s' e1 p1 c1 S1
      dsimp only at h
      match q2 : deepD 6 st' (.obj 0) with
      | none => rw [q2] at h; exact h.elim
      | some d =>
        rw [q2] at h
        obtain ⟨a1, a2, a3, a4, a6, a5⟩ := fin e1 p1 c1 q2
        exact h _ _ a1 a2 a3 a4 a6 a5
    | some (.bk, sl', st') => rw [q] at h; exact h.elim
    | some (.ct, sl', st') => rw [q] at h; exact h.elim
    | some (.xc z, sl', st') =>
      rw [q] at h
      exact fun F' rho' H' s' e1 p1 c1 S1 cls dd xr => h F' H' e1 c1.same (keep e1 c1) (fun b nb q => new c1.tb b nb q (c1.apart b q)) c1.tb cls dd xr
    | some (.rt (.obj j), sl', st') => rw [q] at h; exact h.elim
    | some (.rt (.val d0), sl', st') =>
      rw [q] at h
      cases d0 with
      | non =>
        intro F' rho' H' s' e1 p1 c1 S1 v rv
        cases rv with
        | val rv =>
          cases rv
          dsimp only at h
          match q2 : deepD 6 st' (.obj 0) with
          | none => rw [q2] at h; exact h.elim
          | some d =>
            rw [q2] at h
            obtain ⟨a1, a2, a3, a4, a6, a5⟩ := fin e1 p1 c1 q2
            exact h _ _ a1 a2 a3 a4 a6 a5
      | _ => exact h.elim
end
end Cl
namespace Cl
open PySem L2
theorem OpR_or {X : Cx} {f : Value → Value → Sem Value} {r r' : R2} (h : OpR X f r) (h' : OpR X f r') : OpR X f (fun x y H Q => r x y H Q ∨ r' x y H Q) := fun pins s σ H x y v u Q I rx ry q => by
  rcases q with q | q
  · exact h pins s σ H x y v u Q I rx ry q
  · exact h' pins s σ H x y v u Q I rx ry q
@[simp] abbrev ok1 (d : D) (st : List O) : Option (Except XD S × List O) := some (.ok (.val d), st)
section
variable {K : PySem.W.Frag} {mg : Str → Option Value}
/-- two ints -/
@[simp] def gI (C : Int → Int → Bool) (g : Int → Int → D) : S → S → M S
  | .val (.int i), .val (.int j) => fun st => if C i j = true then ok1 (g i j) st else none
  | _, _ => M.stuck
theorem os_I {C : Int → Int → Prop} {Cb : Int → Int → Bool} {g : Int → Int → V} {gd : Int → Int → D} (hC : ∀ i j, Cb i j = true → C i j) (hg : ∀ F i j, Rep K mg F (g i j) (gd i j)) : OpS K mg (rI C g) (gI Cb gd) := by
  intro W B F rho st H x y dx dy Q c rx ry h
  cases rx with
  | obj _ => exact h.elim
  | val rx =>
    cases rx with
    | int i =>
      cases ry with
      | obj _ => exact h.elim
      | val ry =>
        cases ry with
        | int j =>
          simp only [gI] at h
          split at h
          · rename_i hc
            exact ⟨i, j, rfl, rfl, hC i j hc, h.done c _ (.val (hg F i j))⟩
          · exact h.elim
        | _ => exact h.elim
    | _ => exact h.elim
theorem os_I0 {g : Int → Int → V} {gd : Int → Int → D} (hg : ∀ F i j, Rep K mg F (g i j) (gd i j)) : OpS K mg (rI0 g) (gI (fun _ _ => true) gd) := by
  intro W B F rho st H x y dx dy Q c rx ry h
  obtain ⟨i, j, a, b, _, q⟩ := os_I (K := K) (mg := mg) (C := fun _ _ => True) (Cb := fun _ _ => true) (g := g) (gd := gd) (fun _ _ _ => trivial) hg W B F rho st H x y dx dy Q c rx ry h
  exact ⟨i, j, a, b, q⟩
abbrev gSub := gI (fun _ _ => true) fun i j => .int (i - j)
abbrev gLt := gI (fun _ _ => true) fun i j => .bl (decide (i < j))
abbrev gLe := gI (fun _ _ => true) fun i j => .bl (decide (i ≤ j))
abbrev gGt := gI (fun _ _ => true) fun i j => .bl (decide (j < i))
abbrev gGe := gI (fun _ _ => true) fun i j => .bl (decide (j ≤ i))
abbrev gMod := gI (fun _ j => decide (0 < j)) fun i j => .int (i % j)
abbrev gDiv := gI (fun _ j => decide (0 < j ∧ j < 1073741824)) fun i j => .int (i / j)
abbrev gPow := gI (fun i j => decide (0 ≤ j ∧ j ≤ 1000000 ∧ i.natAbs < 2 ^ 64)) fun i j => .int (i ^ j.toNat)
abbrev gMulI := gI (fun i j => decide ((-(2 ^ 64) < i ∧ i < 2 ^ 64) ∨ (-(2 ^ 64) < j ∧ j < 2 ^ 64))) fun i j => .int (i * j)
theorem os_sub : OpS K mg (rI0 fun i j => .int (i - j)) gSub := os_I0 fun _ _ _ => .int _
theorem os_lt : OpS K mg (rI0 fun i j => .bl (decide (i < j))) gLt := os_I0 fun _ _ _ => .bl _
theorem os_le : OpS K mg (rI0 fun i j => .bl (decide (i ≤ j))) gLe := os_I0 fun _ _ _ => .bl _
theorem os_gt : OpS K mg (rI0 fun i j => .bl (decide (j < i))) gGt := os_I0 fun _ _ _ => .bl _
theorem os_ge : OpS K mg (rI0 fun i j => .bl (decide (j ≤ i))) gGe := os_I0 fun _ _ _ => .bl _
theorem os_mod : OpS K mg (rI (fun _ j => 0 < j) fun i j => .int (i % j)) gMod := os_I (fun _ _ h => of_decide_eq_true h) fun _ _ _ => .int _
theorem os_div : OpS K mg (rI CDiv fun i j => .int (i / j)) gDiv := os_I (fun i j h => of_decide_eq_true (p := 0 < j ∧ j < 1073741824) h) fun _ _ _ => .int _
theorem os_pow : OpS K mg (rI CPow fun i j => .int (i ^ j.toNat)) gPow := os_I (fun i j h => of_decide_eq_true (p := 0 ≤ j ∧ j ≤ 1000000 ∧ i.natAbs < 2 ^ 64) h) fun _ _ _ => .int _
theorem os_mulI : OpS K mg (rI CMul fun i j => .int (i * j)) gMulI := os_I (fun i j h => of_decide_eq_true (p := (-(2 ^ 64) < i ∧ i < 2 ^ 64) ∨ (-(2 ^ 64) < j ∧ j < 2 ^ 64)) h) fun _ _ _ => .int _
/-- two lists, joined to data -/
def gCat (x y : S) : M S := fun st => match lstOf x st, lstOf y st with
  | some xs, some ys => match datas (xs ++ ys) with
    | some ds => if ds.length ≤ sizeLine then ok1 (.lst ds) st else none
    | none => none
  | _, _ => none
/-- .. to a new list of the store -/
def gCatO (x y : S) : M S := fun st => match lstOf x st, lstOf y st with
  | some xs, some ys => if (xs ++ ys).length ≤ sizeLine then some (.ok (.obj st.length), st ++ [.lst (xs ++ ys)]) else none
  | _, _ => none
theorem os_cat : OpS K mg rCat gCat := by
  intro W B F rho st H x y dx dy Q c rx ry h
  unfold gCat at h
  match e1 : lstOf dx st, e2 : lstOf dy st with
  | none, _ => rw [e1] at h; exact h.elim
  | some xs, none => rw [e1, e2] at h; exact h.elim
  | some xs, some ys =>
    rw [e1, e2] at h
    dsimp only at h
    obtain ⟨a, va, rfl, ha, ra⟩ := lst_at c rx e1
    obtain ⟨b, vb, rfl, hb, rb⟩ := lst_at c ry e2
    match e3 : datas (xs ++ ys) with
    | none => rw [e3] at h; exact h.elim
    | some ds =>
      rw [e3] at h
      dsimp only at h
      split at h
      · rename_i hz
        have rr := (ra.append rb).datas e3
        refine ⟨a, b, va, vb, rfl, rfl, ha, hb, by rw [← List.length_append, rr.length]; exact hz, fun p hp => ?_⟩
        exact h (upd F p (.lst (va ++ vb))) rho _ (same_upd (c.same.free hp)) (Pre.refl _) (c.alloc hp) _ (.val (.lst upd_same (rr.mono (same_upd (c.same.free hp)))))
      · exact h.elim
theorem os_catO : OpS K mg rCat gCatO := by
  intro W B F rho st H x y dx dy Q c rx ry h
  unfold gCatO at h
  match e1 : lstOf dx st, e2 : lstOf dy st with
  | none, _ => rw [e1] at h; exact h.elim
  | some xs, none => rw [e1, e2] at h; exact h.elim
  | some xs, some ys =>
    rw [e1, e2] at h
    dsimp only at h
    obtain ⟨a, va, rfl, ha, ra⟩ := lst_at c rx e1
    obtain ⟨b, vb, rfl, hb, rb⟩ := lst_at c ry e2
    split at h
    · rename_i hz
      have rr := ra.append rb
      refine ⟨a, b, va, vb, rfl, rfl, ha, hb, by rw [← List.length_append, rr.length]; exact hz, fun p hp => ?_⟩
      refine h F (rho ++ [p]) _ (Same.refl _) (Pre.app _ _) (c.new hp ⟨c.same.free hp, _, upd_same, rr.mono (Same.refl _) (Pre.app _ _)⟩) _ (.obj ?_)
      rw [← c.len, List.getElem?_append_right (Nat.le_refl _), Nat.sub_self]; rfl
    · exact h.elim
def rAdd (K : PySem.W.Frag) : R2 := fun x y H Q => rI0 (fun i j => .int (i + j)) x y H Q ∨ (∃ i j, x = .str i ∧ y = .str j ∧ i.length + j.length ≤ sizeLine ∧ Q (.str (i ++ j)) H) ∨ rCatF K x y H Q ∨ rCat x y H Q
theorem op_addA {X : Cx} : OpR X (binaryOp .Add) (rAdd X.K) := OpR_or op_add (OpR_or op_add_str (OpR_or op_catF op_cat))
def gAdd : S → S → M S
  | .val (.int i), .val (.int j) => fun st => ok1 (.int (i + j)) st
  | .val (.str a), .val (.str b) => fun st => if a.length + b.length ≤ sizeLine then ok1 (.str (a ++ b)) st else none
  | .val (.tup a), .val (.tup b) => fun st => if a.length + b.length ≤ sizeLine then ok1 (.tup (a ++ b)) st else none
  | x, y => gCat x y
theorem os_addT {W : Value → Option Addr → Hp → Prop} {B F : Hp} {rho : List Addr} {st : List O} {H : Hp} {x y : V} {a b : List D} {Q : VK} (c : Core K mg B F rho st H) (rx : Rep K mg F x (.tup a)) (ry : Rep K mg F y (.tup b))
    (h : Post K mg B (fun F' rho' H' d => ∀ v, RepS K mg F' rho' v d → Q v H') W F rho (if a.length + b.length ≤ sizeLine then ok1 (.tup (a ++ b)) st else none)) : rCatF K x y H Q := by
  split at h
  · rename_i hz
    cases rx with
    | @tup p va _ ha ra na =>
      cases ry with
      | @tup q vb _ hb rb nb =>
        refine ⟨p, q, va, vb, rfl, rfl, SqT_mono c.same ha, SqT_mono c.same hb, by rw [ra.length, rb.length]; exact hz, fun e => ?_, fun n e => ?_, fun n1 n2 r o hr hd => ?_⟩
        · subst e; cases ra; exact h.done c _ (.val (.tup hb (by simpa using rb) (by simpa using nb)))
        · subst e; cases rb; exact h.done c _ (.val (.tup ha (by simpa using ra) (by simpa using na)))
        · exact h (upd F r (.frz o (.tup (va ++ vb)))) rho _ (same_upd (c.same.free hr)) (Pre.refl _) (c.alloc hr) _ (.val (.tup SqT.ofF ((ra.append rb).mono (same_upd (c.same.free hr))) fun _ => NoD.of hd))
  · exact h.elim
theorem os_add : OpS K mg (rAdd K) gAdd := by
  intro W B F rho st H x y dx dy Q c rx ry h
  unfold gAdd at h
  split at h
  · rename_i i j
    cases rx with | val rx => cases rx; cases ry with | val ry => cases ry; exact .inl ⟨i, j, rfl, rfl, h.done c _ (.val (.int _))⟩
  · rename_i i j
    cases rx with
    | val rx =>
      cases rx
      cases ry with
      | val ry =>
        cases ry
        split at h
        · rename_i hz
          exact .inr (.inl ⟨i, j, rfl, rfl, hz, h.done c _ (.val (.str _))⟩)
        · exact h.elim
  · rename_i a b
    cases rx with
    | val rx => cases ry with
      | val ry => exact .inr (.inr (.inl (os_addT c rx ry h)))
  · exact .inr (.inr (.inr (os_cat W B F rho st H x y _ _ Q c rx ry h)))
end
end Cl
namespace Cl
open PySem L2
mutual
def toP : D → Option PyData
  | .non => some .none
  | .bl b => some (.bool b)
  | .int i => some (.int i)
  | .str x => some (.str x)
  | .tup l => (toPs l).map .tuple
  | .lst l => (toPs l).map .list
  | _ => none
def toPs : List D → Option (List PyData)
  | [] => some []
  | d :: r => match toP d, toPs r with
    | some a, some b => some (a :: b)
    | _, _ => none
end
section
variable {K : PySem.W.Frag} {mg : Str → Option Value} {B F : Hp} {rho : List Addr} {st : List O} {H : Hp}
mutual
theorem toP_ok (e : Same F H) : ∀ {v : V} {d : D} {p : PyData}, Rep K mg F v d → toP d = some p → Dp K H v p
  | _, _, _, .non, h => by unfold toP at h; cases h; exact .non
  | _, _, _, .bl b, h => by unfold toP at h; cases h; exact .bl b
  | _, _, _, .int b, h => by unfold toP at h; cases h; exact .int b
  | _, _, _, .str b, h => by unfold toP at h; cases h; exact .str b
  | _, _, _, .tup a b n, h => by
    unfold toP at h
    obtain ⟨l, h2, rfl⟩ := Option.map_eq_some_iff.mp h
    exact .tup (SqT_mono e a) (toPs_ok e b h2)
  | _, _, _, .lst a b, h => by
    unfold toP at h
    obtain ⟨l, h2, rfl⟩ := Option.map_eq_some_iff.mp h
    exact .lst (SqL.of (e _ _ a)) (toPs_ok e b h2)
  | _, _, _, .scr a b, h => by unfold toP at h; cases h
  | _, _, _, .ins a b _, h => by unfold toP at h; cases h
  | _, _, _, .dct a b, h => by unfold toP at h; cases h
  | _, _, _, .vv a, h => by unfold toP at h; cases h
theorem toPs_ok (e : Same F H) : ∀ {v : List V} {d : List D} {p : List PyData}, Reps K mg F v d → toPs d = some p → DpAll K H v p
  | _, _, _, .nil, h => by unfold toPs at h; cases h; exact .nil
  | _, _, _, .cons (d := d) (ds := ds) r t, h => by
    unfold toPs at h
    match e1 : toP d, e2 : toPs ds with
    | some a, some b => rw [e1, e2] at h; cases h; exact .cons (toP_ok e r e1) (toPs_ok e t e2)
    | none, _ => rw [e1] at h; cases h
    | some a, none => rw [e1, e2] at h; cases h
end
def toPS (s : S) (st : List O) : Option PyData := match s with
  | .val d => toP d
  | .obj _ => match lstOf s st with
    | some l => (datas l).bind fun ds => (toPs ds).map .list
    | none => none
theorem toPS_ok {v : V} {s : S} {p : PyData} (c : Core K mg B F rho st H) (r : RepS K mg F rho v s) (h : toPS s st = some p) : Dp K H v p := by
  cases r with
  | val r => exact toP_ok c.same r h
  | @obj k a q =>
    unfold toPS at h
    dsimp only at h
    match e : lstOf (.obj k) st with
    | none => rw [e] at h; cases h
    | some l =>
      rw [e] at h
      dsimp only at h
      obtain ⟨a', vs, ea, hH, rs⟩ := lst_at c (.obj q) e
      cases ea
      obtain ⟨ds, h1, h2⟩ := Option.bind_eq_some_iff.mp h
      obtain ⟨ps, h3, rfl⟩ := Option.map_eq_some_iff.mp h2
      exact .lst (SqL.of hH) (toPs_ok c.same (rs.datas h1) h3)
def gEqB (neg : Bool) (x y : S) : M S := fun st => match toPS x st, toPS y st with
  | some a, some b => if SeqAt.shaped a = true ∧ SeqAt.shaped b = true then ok1 (.bl (if neg = true then !PyData.eqv a b else PyData.eqv a b)) st else none
  | _, _ => none
abbrev gEq := gEqB false
abbrev gNe := gEqB true
theorem os_eq : OpS K mg (rEqD K) gEq := by
  intro W B F rho st H x y dx dy Q c rx ry h
  unfold gEq gEqB at h
  match e1 : toPS dx st, e2 : toPS dy st with
  | none, _ => rw [e1] at h; exact h.elim
  | some xs, none => rw [e1, e2] at h; exact h.elim
  | some a, some b =>
    rw [e1, e2] at h
    dsimp only at h
    split at h
    · rename_i hs
      exact ⟨a, b, toPS_ok c rx e1, toPS_ok c ry e2, hs.1, hs.2, h.done c _ (.val (.bl _))⟩
    · exact h.elim
theorem os_ne : OpS K mg (rNeD K) gNe := by
  intro W B F rho st H x y dx dy Q c rx ry h
  unfold gNe gEqB at h
  match e1 : toPS dx st, e2 : toPS dy st with
  | none, _ => rw [e1] at h; exact h.elim
  | some xs, none => rw [e1, e2] at h; exact h.elim
  | some a, some b =>
    rw [e1, e2] at h
    dsimp only at h
    split at h
    · rename_i hs
      exact ⟨a, b, toPS_ok c rx e1, toPS_ok c ry e2, hs.1, hs.2, h.done c _ (.val (.bl _))⟩
    · exact h.elim
def isNonS : S → Option Bool
  | .val .non => some true
  | .val (.vv _) => none
  | _ => some false
def gIsN (neg : Bool) (x y : S) : M S := fun st => match y, isNonS x with
  | .val .non, some b => ok1 (.bl (if neg = true then !b else b)) st
  | _, _ => none
theorem isNon_ok {x : V} {dx : S} {b : Bool} (rx : RepS K mg F rho x dx) (h : isNonS dx = some b) : decide (x = .non) = b := by
  cases rx with
  | obj _ => cases h; rfl
  | val rx => cases rx <;> cases h <;> rfl
theorem os_notN : OpS K mg (fun x y H Q => y = .non ∧ Q (.bl (!decide (x = .non))) H) (gIsN true) := by
  intro W B F rho st H x y dx dy Q c rx ry h
  unfold gIsN at h
  split at h
  · rename_i b e
    cases ry with
    | val ry => cases ry; exact ⟨rfl, by rw [isNon_ok rx e]; exact h.done c _ (.val (.bl _))⟩
  · exact h.elim
def flatP : PyData → Bool
  | .none => true
  | .bool _ => true
  | .int _ => true
  | .str _ => true
  | _ => false
theorem flat_eqv {x : V} {p : PyData} (h : Dp K H x p) (f : flatP p = true) : flatV x = true := by
  cases h <;> first | rfl | cases f
theorem eqV_eqv {x y : V} {p q : PyData} (hx : Dp K H x p) (hy : Dp K H y q) (fx : flatP p = true) (fy : flatP q = true) : eqV x y = PyData.eqv p q := by
  cases hx <;> cases fx <;> cases hy <;> cases fy <;> simp [eqV, PyData.eqv]
theorem all_flat : ∀ {xs : List V} {ps : List PyData}, DpAll K H xs ps → ps.all flatP = true → xs.all flatV = true
  | _, _, .nil, _ => rfl
  | _, _, .cons a b, h => by
    simp only [List.all_cons, Bool.and_eq_true] at h ⊢
    exact ⟨flat_eqv a h.1, all_flat b h.2⟩
theorem any_flat {x : V} {p : PyData} (hx : Dp K H x p) (fx : flatP p = true) : ∀ {xs : List V} {ps : List PyData}, DpAll K H xs ps → ps.all flatP = true → inV x xs = ps.any fun z => PyData.eqv z p
  | _, _, .nil, _ => rfl
  | _, _, .cons a b, h => by
    simp only [List.all_cons, Bool.and_eq_true] at h
    unfold inV
    simp only [List.any_cons]
    rw [eqV_eqv a hx h.1 fx]
    have := any_flat hx fx b h.2
    unfold inV at this
    rw [this]
def gInB (neg : Bool) (x y : S) : M S := fun st => match x, y with
  | .val (.str c), .val (.str z) => match c.cps.toList with
    | [k] => ok1 (.bl (if neg = true then !decide (k ∈ z.cps.toList) else decide (k ∈ z.cps.toList))) st
    | _ => none
  | x, y => match toPS x st, (seqOf y st).bind datas with
    | some a, some ds => match toPs ds with
      | some bs => if (flatP a = true ∧ bs.all flatP = true) ∨ ((lstOf y st).isSome = true ∧ SeqAt.shaped a = true ∧ SeqAt.shaped (.list bs) = true) then ok1 (.bl (if neg = true then !(bs.any fun z => PyData.eqv z a) else bs.any fun z => PyData.eqv z a)) st else none
      | none => none
    | _, _ => none
def rInA (K : PySem.W.Frag) : R2 := fun x y H Q => (∃ (c : Nat) (z : Str), x = .str ⟨#[c]⟩ ∧ y = .str z ∧ Q (.bl (decide (c ∈ z.cps.toList))) H) ∨ rIn K false x y H Q ∨ rInD K x y H Q
def rNotInA (K : PySem.W.Frag) : R2 := fun x y H Q => (∃ (c : Nat) (z : Str), x = .str ⟨#[c]⟩ ∧ y = .str z ∧ Q (.bl (!decide (c ∈ z.cps.toList))) H) ∨ rIn K true x y H Q ∨ rNotInD K x y H Q
theorem op_inA {X : Cx} (hu : X.A.units + 65 < cLine) : OpR X (compareOp .In) (rInA X.K) := OpR_or op_in_sign (OpR_or op_in_seq (op_inD hu))
theorem op_notInA {X : Cx} (hu : X.A.units + 65 < cLine) : OpR X (compareOp .NotIn) (rNotInA X.K) := OpR_or op_notIn_sign (OpR_or op_notIn_seq (op_notInD hu))
theorem in_parts {neg : Bool} {W : Value → Option Addr → Hp → Prop} {x y : V} {dx dy : S} {Q : VK} (c : Core K mg B F rho st H) (rx : RepS K mg F rho x dx) (ry : RepS K mg F rho y dy)
    (h : Post K mg B (fun F' rho' H' d => ∀ v, RepS K mg F' rho' v d → Q v H') W F rho (gInB neg dx dy st)) :
    (∃ (k : Nat) (z : Str), x = .str ⟨#[k]⟩ ∧ y = .str z ∧ Q (.bl (if neg = true then !decide (k ∈ z.cps.toList) else decide (k ∈ z.cps.toList))) H) ∨
    (∃ p xs, y = .ref p ∧ (SqL K H p xs ∨ SqT K H p xs) ∧ flatV x = true ∧ xs.all flatV = true ∧ Q (.bl (if neg = true then !inV x xs else inV x xs)) H) ∨
    (∃ d ds, Dp K H x d ∧ Dp K H y (.list ds) ∧ SeqAt.shaped d = true ∧ SeqAt.shaped (.list ds) = true ∧ Q (.bl (if neg = true then !(ds.any fun z => PyData.eqv z d) else ds.any fun z => PyData.eqv z d)) H) := by
  unfold gInB at h
  split at h
  · rename_i cs z
    cases rx with
    | val rx =>
      cases rx
      cases ry with
      | val ry =>
        cases ry
        match e : cs.cps.toList with
        | [k] =>
          rw [e] at h
          refine .inl ⟨k, z, ?_, rfl, h.done c _ (.val (.bl _))⟩
          have : cs = ⟨#[k]⟩ := by
            obtain ⟨⟨l⟩⟩ := cs
            have e' : l = [k] := e
            rw [e']
          rw [this]
        | [] => rw [e] at h; exact h.elim
        | _ :: _ :: _ => rw [e] at h; exact h.elim
  · match e1 : toPS dx st, e2 : (seqOf dy st).bind datas with
    | none, _ => rw [e1] at h; exact h.elim
    | some a, none => rw [e1, e2] at h; exact h.elim
    | some a, some ds =>
      rw [e1, e2] at h
      dsimp only at h
      match e3 : toPs ds with
      | none => rw [e3] at h; exact h.elim
      | some bs =>
        rw [e3] at h
        dsimp only at h
        obtain ⟨ss, h1, h2⟩ := Option.bind_eq_some_iff.mp e2
        have hx := toPS_ok c rx e1
        split at h
        · rename_i hc
          rcases hc with ⟨f1, f2⟩ | ⟨l1, s1, s2⟩
          · obtain ⟨p, vs, rfl, hs, rs⟩ := seq_at c ry h1
            have hys := toPs_ok c.same (rs.datas h2) e3
            refine .inr (.inl ⟨p, vs, rfl, hs, flat_eqv hx f1, all_flat hys f2, ?_⟩)
            rw [any_flat hx f1 hys f2]
            exact h.done c _ (.val (.bl _))
          · obtain ⟨ls, e4⟩ := Option.isSome_iff_exists.mp l1
            obtain ⟨p, vs, rfl, hH, rs⟩ := lst_at c ry e4
            have es : seqOf dy st = some ls := by
              cases dy with
              | obj k => exact e4
              | val d => cases d <;> first | exact e4 | cases e4
            rw [h1] at es
            cases es
            exact .inr (.inr ⟨a, bs, hx, .lst (SqL.of hH) (toPs_ok c.same (rs.datas h2) e3), s1, s2, h.done c _ (.val (.bl _))⟩)
        · exact h.elim
theorem os_in : OpS K mg (rInA K) (gInB false) := by
  intro W B F rho st H x y dx dy Q c rx ry h
  rcases in_parts c rx ry h with q | q | q
  · exact .inl q
  · exact .inr (.inl q)
  · exact .inr (.inr q)
theorem os_notIn : OpS K mg (rNotInA K) (gInB true) := by
  intro W B F rho st H x y dx dy Q c rx ry h
  rcases in_parts c rx ry h with q | q | q
  · exact .inl q
  · exact .inr (.inl q)
  · exact .inr (.inr q)
theorem atI_rep {vs : List V} {ss : List S} {i : Int} {s : S} (rs : RepSs K mg F rho vs ss) (h : atI ss i = some s) : ∃ v, atI vs i = some v ∧ RepS K mg F rho v s := by
  unfold atI at h ⊢
  rw [rs.length]
  obtain ⟨j, h1, h2⟩ := Option.bind_eq_some_iff.mp h
  obtain ⟨v, h3, h4⟩ := rs.get h2
  exact ⟨v, by rw [h1]; exact h3, h4⟩
def gIx (x y : S) : M S := fun st => match x, y with
  | .val (.str z), .val (.int i) => if z.length ≤ sizeLine then (match atI z.cps.toList i with
    | some c => ok1 (.str ⟨#[c]⟩) st
    | none => none) else none
  | x, .val (.int i) => match seqOf x st with
    | some ss => match atI ss i with
      | some s => some (.ok (rsvS s st), st)
      | none => none
    | none => none
  | _, _ => none
theorem os_ix : OpS K mg (rIx K) gIx := by
  intro W B F rho st H x y dx dy Q c rx ry h
  unfold gIx at h
  split at h
  · rename_i z i
    cases rx with
    | val rx =>
      cases rx
      cases ry with
      | val ry =>
        cases ry
        split at h
        · rename_i hz
          match e : atI z.cps.toList i with
          | some k => rw [e] at h; exact .inr (.inr ⟨z, i, k, rfl, rfl, hz, e, h.done c _ (.val (.str _))⟩)
          | none => rw [e] at h; exact h.elim
        · exact h.elim
  · rename_i i _
    cases ry with
    | val ry =>
      cases ry
      match e1 : seqOf dx st with
      | none => rw [e1] at h; exact h.elim
      | some ss =>
        rw [e1] at h
        dsimp only at h
        match e2 : atI ss i with
        | none => rw [e2] at h; exact h.elim
        | some s =>
          rw [e2] at h
          obtain ⟨p, vs, rfl, hs, rs⟩ := seq_at c rx e1
          obtain ⟨v, h3, h4⟩ := atI_rep rs e2
          rcases hs with hs | hs
          · exact .inl ⟨p, vs, i, v, rfl, rfl, hs, h3, h.done c _ (rsv_ok c h4)⟩
          · exact .inr (.inl ⟨p, vs, i, v, rfl, rfl, hs, h3, h.done c _ (rsv_ok c h4)⟩)
  · exact h.elim
end
end Cl
namespace L2
open PySem PySem.Spec PyProof.Rows
section
variable {X : Cx} {tg : Expr}
/-- a list, a tuple or a text walked -/
def iSeq (K : PySem.W.Frag) (tl : TE) : TI := fun σ H R => tl σ H fun x H1 => (∃ a, x = .ref a ∧ (∃ xs, SqL K H1 a xs) ∧ R (Itl K a) H1) ∨ (∃ a, x = .ref a ∧ (∃ xs, SqT K H1 a xs) ∧ R (Itt K a) H1) ∨ (∃ z, x = .str z ∧ R (Its z) H1)
theorem pi_seq {l : Expr} {tl : TE} (hl : PE X l tl) : PI X tg l (iSeq X.K tl) := by
  refine ⟨fun pins s σ H R I h => ?_⟩
  refine thn (hl.run pins s σ H _ I h) fun v s1 ⟨x, H1, I1, r1, q1⟩ => ?_
  rcases q1 with ⟨a, e, ⟨xs, hq⟩, q⟩ | ⟨a, e, ⟨xs, hq⟩, q⟩ | ⟨z, e, q⟩
  · subst e
    cases r1
    obtain ⟨its, rv, p, hz⟩ := I1.list hq
    refine wpAny_pyIter_list p.isList ?_
    refine ⟨s1.heap.objs.size, [s1.heap.objs.size], _, _, H1, rfl, I1.kept (t' := s1.toks) fun b o e => Heap.get?_push_of_some _ e, turn_list a _, ⟨_, Heap.get?_push_size _ rfl, rfl, rfl⟩, fun b hb => ?_, q⟩
    have e : b = s1.heap.objs.size := by simpa using hb
    subst e
    exact I1.fpOk (Nat.le_refl _) (I1.hok.fresh (Nat.le_refl _))
  · subst e
    cases r1
    obtain ⟨its, rv, p, hz⟩ := I1.tuple hq
    refine wpAny_pyIter_tuple (show s1.heap.IsTuple a its.toArray from p) ?_
    refine ⟨s1.heap.objs.size, [s1.heap.objs.size], _, _, H1, rfl, I1.kept (t' := s1.toks) fun b o e => Heap.get?_push_of_some _ e, turn_tuple a _, ⟨_, Heap.get?_push_size _ rfl, rfl, rfl⟩, fun b hb => ?_, q⟩
    have e : b = s1.heap.objs.size := by simpa using hb
    subst e
    exact I1.fpOk (Nat.le_refl _) (I1.hok.fresh (Nat.le_refl _))
  · subst e
    obtain ⟨t, rfl⟩ := r1
    cases ha : z.cps.all (· < 128)
    · exact wpAny_pyIter_wide ha (pi_one (tk := s1.toks) I1 _ (turn_str _ z t "str_iterator" (.inr rfl)) ⟨_, Heap.get?_push_size _ rfl, rfl, rfl⟩ q)
    · exact wpAny_pyIter_ascii ha (pi_one (tk := s1.toks) I1 _ (turn_str _ z t "str_ascii_iterator" (.inl rfl)) ⟨_, Heap.get?_push_size _ rfl, rfl, rfl⟩ q)
end
end L2
namespace Cl
open PySem L2
/-- what a loop walks: the items, and what must stay true of the store meanwhile -/
abbrev Its' := List S × (List O → Prop)
abbrev MI := Sl → M Its'
section
variable (K : PySem.W.Frag) (mg : Str → Option Value)
structure JOk (F : Hp) (rho : List Addr) (J : It) (w : Its') : Prop where
  go : ∀ B F1 rho1 st1 H1 (i : Nat), Same F F1 → Pre rho rho1 → Core K mg B F1 rho1 st1 H1 → w.2 st1 → i < w.1.length → J.go i H1 ∧ ∀ x H', J.yld i H1 x H' → ∃ F2, Same F1 F2 ∧ Core K mg B F2 rho1 st1 H' ∧ ∀ d, w.1[i]? = some d → RepS K mg F2 rho1 x d
  stop : ∀ B F1 rho1 st1 H1, Same F F1 → Pre rho rho1 → Core K mg B F1 rho1 st1 H1 → w.2 st1 → J.stop w.1.length H1
variable (B : Hp)
def tI (W : WX) (fi : MI) : TI := fun s H R => ∃ F rho sl st, Core K mg B F rho st H ∧ Slots K mg F rho s sl ∧ Post K mg B (fun F' rho' H' w => ∀ J, JOk K mg F' rho' J w → R J H') (fun c d H' => W c d s H') F rho (fi sl st)
abbrev MG := S → Sl → List O → Option (Sl × List O)
abbrev MGs := List S → Sl → List O → Option (Sl × List O)
def PostG (F : Hp) (rho : List Addr) (Q : St → Hp → Prop) (m : Option (Sl × List O)) : Prop := match m with
  | none => False
  | some (sl', st') => ∀ F' rho' H' s', Same F F' → Pre rho rho' → Core K mg B F' rho' st' H' → Slots K mg F' rho' s' sl' → Q s' H'
def tG (g : MG) : TG := fun v s H Q => ∃ F rho sl st d, Core K mg B F rho st H ∧ Slots K mg F rho s sl ∧ RepS K mg F rho v d ∧ PostG K mg B F rho Q (g d sl st)
def tGs (g : MGs) : TGs := fun vs s H Q => ∃ F rho sl st ds, Core K mg B F rho st H ∧ Slots K mg F rho s sl ∧ RepSs K mg F rho vs ds ∧ PostG K mg B F rho Q (g ds sl st)
end
abbrev QI (X : Cx) (B : Hp) (W : WX) (tg iter : Expr) (f : MI) : Prop := PI X tg iter (tI X.K X.mg B W f)
abbrev QG (X : Cx) (B : Hp) (tg : Expr) (g : MG) : Prop := PG X tg (tG X.K X.mg B g)
abbrev QGs (X : Cx) (B : Hp) (tgs : List Expr) (g : MGs) : Prop := PGs X tgs (tGs X.K X.mg B g)
section
variable {X : Cx} {tg iter : Expr}
theorem PIimp {t t' : TI} (h : PI X tg iter t) (i : ∀ s H R, t' s H R → t s H R) : PI X tg iter t' := ⟨fun pins s σ H R I q => h.run pins s σ H R I (i _ _ _ q)⟩
theorem PGimp {t t' : TG} (h : PG X tg t) (i : ∀ v s H R, t' v s H R → t v s H R) : PG X tg t' := ⟨fun pins s σ H v u Q I r q => h.run pins s σ H v u Q I r (i _ _ _ _ q)⟩
theorem PGsimp {tgs : List Expr} {t t' : TGs} (h : PGs X tgs t) (i : ∀ v s H R, t' v s H R → t v s H R) : PGs X tgs t' := ⟨fun pins s σ H v u Q I r q => h.run pins s σ H v u Q I r (i _ _ _ _ q)⟩
end
@[simp] def tgName (i : Nat) : MG := fun d sl st => some (sl.set i (some d), st)
@[simp] def tgNil : MGs := fun ds sl st => match ds with
  | [] => some (sl, st)
  | _ => none
@[simp] def tgCons (g : MG) (gs : MGs) : MGs := fun ds sl st => match ds with
  | d :: r => match g (rsvS d st) sl st with
    | some (sl1, st1) => gs r sl1 st1
    | none => none
  | [] => none
@[simp] def tgTup (n : Nat) (gs : MGs) : MG := fun d sl st => match d with
  | .val (.tup ds) => if ds.length = n then gs (ds.map .val) sl st else none
  | _ => none
section
variable {X : Cx} {B : Hp} {pos : Pos}
theorem qg_name {i : Nat} {x : Str} (hN : X.N.Nodup) (hi : X.N[i]? = some x := by rfl) (hx : Loc X.env.scope x := by first | exact Or.inl rfl | exact Or.inr rfl) (hf : X.fn x = true ∨ X.env.scope.names.lookup x = some .local := by first | exact .inl rfl | exact .inr rfl | assumption) : QG X B (.Name x pos) (tgName i) :=
  PGimp (pg_name hN hi hx hf) fun v s H R ⟨F, rho, sl, st, d, c, S', r, h⟩ => h F rho H _ (Same.refl _) (Pre.refl _) c (S'.set r i)
theorem qgs_nil : QGs X B [] tgNil := PGsimp pgs_nil fun vs s H R ⟨F, rho, sl, st, ds, c, S', r, h⟩ => by
  cases r with
  | nil => exact ⟨rfl, h F rho H _ (Same.refl _) (Pre.refl _) c S'⟩
  | cons _ _ => exact h.elim
theorem qgs_cons {e : Expr} {es : List Expr} {g : MG} {gs : MGs} (h1 : QG X B e g) (h2 : QGs X B es gs) (hs : (assignEach (e :: es) X.env).map (·.2) = assign e X.env :: (assignEach es X.env).map (·.2) := by rfl) : QGs X B (e :: es) (tgCons g gs) := by
  refine PGsimp (pgs_cons h1 h2 hs) fun vs s H R ⟨F, rho, sl, st, ds, c, S', r, h⟩ => ?_
  cases r with
  | nil => exact h.elim
  | @cons v d vs ds r t =>
    refine ⟨v, vs, rfl, F, rho, sl, st, _, c, S', rsv_ok c r, ?_⟩
    unfold tgCons at h
    dsimp only at h
    match e1 : g (rsvS d st) sl st with
    | none => rw [e1] at h; exact h.elim
    | some (sl1, st1) =>
      rw [e1] at h
      dsimp only at h
      refine fun F' rho' H' s' e p c' S'' => ⟨F', rho', sl1, st1, ds, c', S'', t.mono e p, ?_⟩
      match e2 : gs ds sl1 st1 with
      | none => rw [e2] at h; exact h.elim
      | some (sl2, st2) => rw [e2] at h; exact fun F2 r2 H2 s2 ee pp => h F2 r2 H2 s2 (e.trans ee) (p.trans pp)
theorem qg_tup {es : List Expr} {k n : Nat} {gs : MGs} (hc : X.calm = true) (h : QGs X B es gs) (hn : (assignEach es X.env).length = n := by rfl) (hst : (assignEach es X.env).findIdx? (·.1) = none := by rfl) : QG X B (.Tuple es k pos) (tgTup n gs) := by
  refine PGimp (pg_tup hc h hn hst) fun v s H R ⟨F, rho, sl, st, d, c, S', r, h⟩ => ?_
  unfold tgTup at h
  split at h
  · rename_i ds
    split at h
    · rename_i hl
      cases r with
      | val r =>
        cases r with
        | tup a b n => exact ⟨_, _, rfl, SqT_mono c.same a, by rw [b.length]; exact hl, F, rho, sl, st, _, c, S', b.vals, h⟩
    · exact h.elim
  · exact h.elim
end
open Classical in
noncomputable def forL (C : List O → Prop) (g : MG) (b : MS) : List S → Sl → List O → Option (Fl × Sl × List O)
  | [], sl, st => if C st then some (.nx, sl, st) else none
  | d :: ds, sl, st => if C st then (match g d sl st with
    | none => none
    | some (sl1, st1) => match b sl1 st1 with
      | some (.nx, sl2, st2) => forL C g b ds sl2 st2
      | some (.ct, sl2, st2) => forL C g b ds sl2 st2
      | some (.bk, sl2, st2) => some (.nx, sl2, st2)
      | r => r) else none
@[simp] noncomputable def sFor (fi : MI) (g : MG) (b : MS) : MS := sBind fi fun w => forL w.2 g b w.1
section
variable {X : Cx} {B : Hp} {W : WX} {tg iter : Expr} {body : List Stmt} {fi : MI} {g : MG} {fb : MS} {pos : Pos}
theorem qs_for (hp : PassesOwn (model X.prog X.w) X.A X.env X.xe) (hc : X.calm = true) (hi : QI X B W tg iter fi) (hg : QG X B tg g) (hb : QSs X B W body fb) (hs : ∀ x, foldedSetIterable iter X.env x = pure x := by intro _; rfl) : QS X B W (.For tg iter body [] pos) (sFor fi g fb) := by
  refine PSimp (ps_for hp hc hi hg hb hs) fun N s H h => ?_
  obtain ⟨F, rho, sl, st, c, S', h⟩ := h
  refine ⟨F, rho, sl, st, c, S', (PostS.bind S' h).mono (Same.refl _) (Pre.refl _) (fun F1 r1 H1 w e1 p1 h1 J hJ => ?_) fun _ _ _ z => z⟩
  obtain ⟨st1, c1, _, _, h1⟩ := h1
  refine ⟨fun i m s' H' => i + m = w.1.length ∧ ∃ F2 rho2 sl2 st2, Same F1 F2 ∧ Pre r1 rho2 ∧ Core X.K X.mg B F2 rho2 st2 H' ∧ Slots X.K X.mg F2 rho2 s' sl2 ∧ PostS X.K X.mg B W N F2 rho2 (forL w.2 g fb (w.1.drop i) sl2 st2),
    ⟨w.1.length, by omega, F1, r1, sl, st1, Same.refl _, Pre.refl _, c1, S'.mono e1 p1, h1⟩, ?_⟩
  rintro i m s2 H2 ⟨hm, F2, rho2, sl2, st2, e2, p2, c2, S2, h2⟩
  by_cases hi' : i < w.1.length
  · right
    have hd : w.1.drop i = w.1[i] :: w.1.drop (i + 1) := List.drop_eq_getElem_cons hi'
    rw [hd, forL] at h2
    split at h2
    · rename_i hC
      obtain ⟨j1, j2⟩ := hJ.go B F2 rho2 st2 H2 i e2 p2 c2 hC hi'
      refine ⟨j1, fun s' H' => i + 1 + (m - 1) = w.1.length ∧ ∃ F2 rho2 sl2 st2, Same F1 F2 ∧ Pre r1 rho2 ∧ Core X.K X.mg B F2 rho2 st2 H' ∧ Slots X.K X.mg F2 rho2 s' sl2 ∧ PostS X.K X.mg B W N F2 rho2 (forL w.2 g fb (w.1.drop (i + 1)) sl2 st2),
        fun s' H' z => ⟨m - 1, by omega, z⟩, fun x H' hy => ?_⟩
      obtain ⟨F3, e3, c3, r3⟩ := j2 x H' hy
      refine ⟨F3, rho2, sl2, st2, w.1[i], c3, S2.mono e3 (Pre.refl _), r3 _ (List.getElem?_eq_getElem hi'), ?_⟩
      match q : g w.1[i] sl2 st2 with
      | none => rw [q] at h2; exact h2.elim
      | some (sl3, st3) =>
        rw [q] at h2
        dsimp only at h2
        intro F4 rho4 H4 s4 e4 p4 c4 S4
        refine ⟨F4, rho4, sl3, st3, c4, S4, ?_⟩
        have h3 := PostS.mono h2 (e3.trans e4) p4
        match q2 : fb sl3 st3 with
        | none => rw [q2] at h3; exact h3
        | some (.nx, sl5, st5) => rw [q2] at h3; exact fun F5 r5 H5 s5 e5 p5 c5 S5 => ⟨by omega, F5, r5, sl5, st5, ((e2.trans e3).trans e4).trans e5, (p2.trans p4).trans p5, c5, S5, PostS.mono h3 e5 p5⟩
        | some (.ct, sl5, st5) => rw [q2] at h3; exact fun F5 r5 H5 s5 e5 p5 c5 S5 => ⟨by omega, F5, r5, sl5, st5, ((e2.trans e3).trans e4).trans e5, (p2.trans p4).trans p5, c5, S5, PostS.mono h3 e5 p5⟩
        | some (.bk, sl5, st5) => rw [q2] at h3; exact fun F5 r5 H5 s5 e5 p5 c5 S5 => h3 F5 r5 H5 s5 e5 p5 c5 S5
        | some (.rt d, sl5, st5) => rw [q2] at h3; exact fun F5 r5 H5 s5 e5 p5 c5 S5 => h3 F5 r5 H5 s5 e5 p5 c5 S5
        | some (.xc d, sl5, st5) => rw [q2] at h3; exact fun F5 r5 H5 s5 e5 p5 c5 S5 => h3 F5 r5 H5 s5 e5 p5 c5 S5
    · exact h2.elim
  · left
    have hi2 : i = w.1.length := by omega
    subst hi2
    rw [List.drop_length, forL] at h2
    split at h2
    · rename_i hC
      exact ⟨hJ.stop B F2 rho2 st2 H2 e2 p2 c2 hC, h2.nx c2 S2⟩
    · exact h2.elim
end
end Cl
namespace Cl
open PySem L2
@[simp] def always : List O → Prop := fun _ => True
def gIter : S → M Its'
  | .val (.str z) => fun st => some (.ok (z.cps.toList.map fun c => .val (.str ⟨#[c]⟩), always), st)
  | .val (.tup l) => fun st => some (.ok (l.map .val, always), st)
  | .val (.lst l) => fun st => some (.ok (l.map .val, always), st)
  | .val (.scr l) => fun st => some (.ok (l.map .val, always), st)
  | .obj k => fun st => match st[k]? with
    | some (.lst ss) => some (.ok (ss, fun st => st[k]? = some (.lst ss)), st)
    | _ => none
  | _ => fun _ => none
section
variable {K : PySem.W.Frag} {mg : Str → Option Value} {B F : Hp} {rho : List Addr} {st : List O} {H : Hp}
theorem jok_list {a : Addr} {vs : List V} {ss : List S} {C : List O → Prop} (hL : ∀ B F1 rho1 st1 H1, Same F F1 → Pre rho rho1 → Core K mg B F1 rho1 st1 H1 → C st1 → ∃ vs, SqL K H1 a vs ∧ RepSs K mg F1 rho1 vs ss) : JOk K mg F rho (Itl K a) (ss, C) := by
  refine ⟨fun B F1 rho1 st1 H1 i e p c hC hi => ?_, fun B F1 rho1 st1 H1 e p c hC => ?_⟩
  · obtain ⟨vs, hs, rs⟩ := hL B F1 rho1 st1 H1 e p c hC
    have hi2 : i < vs.length := by rw [rs.length]; exact hi
    refine ⟨⟨vs, vs[i], hs, List.getElem?_eq_getElem hi2⟩, fun x H' ⟨eH, hx⟩ => ?_⟩
    subst eH
    refine ⟨F1, Same.refl _, c, fun d hd => ?_⟩
    obtain ⟨v, h1, h2⟩ := rs.get hd
    have h3 := hx vs hs
    rw [h1] at h3; cases h3
    exact h2
  · obtain ⟨vs, hs, rs⟩ := hL B F1 rho1 st1 H1 e p c hC
    exact ⟨vs, hs, by rw [rs.length]; exact Nat.le_refl _⟩
theorem jok_tup {a : Addr} {vs : List V} {ds : List D} (hT : SqT K F a vs) (rs : Reps K mg F vs ds) : JOk K mg F rho (Itt K a) (ds.map .val, always) := by
  refine ⟨fun B F1 rho1 st1 H1 i e p c hC hi => ?_, fun B F1 rho1 st1 H1 e p c hC => ?_⟩
  · have hs : SqT K H1 a vs := SqT_mono (e.trans c.same) hT
    have hi2 : i < vs.length := by rw [rs.length]; simpa using hi
    refine ⟨⟨vs, vs[i], hs, List.getElem?_eq_getElem hi2⟩, fun x H' ⟨eH, hx⟩ => ?_⟩
    subst eH
    refine ⟨F1, Same.refl _, c, fun d hd => ?_⟩
    obtain ⟨v, h1, h2⟩ := (rs.vals (rho := rho)).get hd
    have h3 := hx vs hs
    rw [h1] at h3; cases h3
    exact h2.mono e p
  · exact ⟨vs, SqT_mono (e.trans c.same) hT, by rw [rs.length]; simp⟩
theorem jok_str {z : Str} : JOk K mg F rho (Its z) (z.cps.toList.map fun c => .val (.str ⟨#[c]⟩), always) := by
  refine ⟨fun B F1 rho1 st1 H1 i e p c hC hi => ?_, fun B F1 rho1 st1 H1 e p c hC => ?_⟩
  · refine ⟨show i < z.cps.size by simpa using hi, fun x H' ⟨eH, k, hk, hx⟩ => ?_⟩
    subst eH
    refine ⟨F1, Same.refl _, c, fun d hd => ?_⟩
    rw [List.getElem?_map] at hd
    have : z.cps.toList[i]? = some k := by simpa using hk
    rw [this] at hd
    cases hd
    rw [hx]
    exact .val (.str _)
  · show z.cps.size ≤ _
    simp
theorem jok_rng {lo : Int} {n : Nat} : JOk K mg F rho (Itr lo n) ((List.range n).map fun i => .val (.int (lo + (i : Nat))), always) := by
  refine ⟨fun B F1 rho1 st1 H1 i e p c hC hi => ?_, fun B F1 rho1 st1 H1 e p c hC => ?_⟩
  · have hi2 : i < n := by simpa using hi
    refine ⟨hi2, fun x H' ⟨eH, hx⟩ => ?_⟩
    subst eH
    refine ⟨F1, Same.refl _, c, fun d hd => ?_⟩
    rw [List.getElem?_map, List.getElem?_range hi2] at hd
    cases hd
    rw [hx]
    exact .val (.int _)
  · show n ≤ _
    simp
/-- an expression, then what it is to a loop -/
theorem it_of {W : WX} {fa : ME} {g : S → M Its'} {s : St} {H : Hp} {R : It → Hp → Prop} {R' : V → Hp → Prop} (h : tI K mg B W (fun sl => (fa sl).bind g) s H R)
    (hR : ∀ F rho st H x dx, Core K mg B F rho st H → RepS K mg F rho x dx → Post K mg B (fun F' rho' H' w => ∀ J, JOk K mg F' rho' J w → R J H') (fun c d H' => W c d s H') F rho (g dx st) → R' x H) : tE K mg B W fa s H R' := by
  obtain ⟨F, rho, sl, st, c, S', h⟩ := h
  refine ⟨F, rho, sl, st, c, S', h.bind.mono (Same.refl _) (Pre.refl _) (fun F1 r1 H1 dx e1 p1 h1 x rx => ?_) fun _ _ _ z => z⟩
  obtain ⟨st1, c1, _, _, h1⟩ := h1
  exact hR F1 r1 st1 H1 x dx c1 rx h1
theorem its_of {W : WX} {fa : MA} {g : List S → M Its'} {s : St} {H : Hp} {R : It → Hp → Prop} {R' : List V → Hp → Prop} (h : tI K mg B W (fun sl => (fa sl).bind g) s H R)
    (hR : ∀ F rho st H x dx, Core K mg B F rho st H → RepSs K mg F rho x dx → Post K mg B (fun F' rho' H' w => ∀ J, JOk K mg F' rho' J w → R J H') (fun c d H' => W c d s H') F rho (g dx st) → R' x H) : tA K mg B W fa s H R' := by
  obtain ⟨F, rho, sl, st, c, S', h⟩ := h
  refine ⟨F, rho, sl, st, c, S', h.bind.mono (Same.refl _) (Pre.refl _) (fun F1 r1 H1 dx e1 p1 h1 x rx => ?_) fun _ _ _ z => z⟩
  obtain ⟨st1, c1, _, _, h1⟩ := h1
  exact hR F1 r1 st1 H1 x dx c1 rx h1
end
@[simp] def iOf (a : ME) : MI := fun sl => (a sl).bind gIter
def gRange1 : List S → M Its'
  | [.val (.int j)] => fun st => if -(2 ^ 62) ≤ j ∧ j < 2 ^ 62 then some (.ok ((List.range j.toNat).map fun i => .val (.int (0 + (i : Nat))), always), st) else none
  | _ => M.stuck
@[simp] def iArgs (g : List S → M Its') (a : MA) : MI := fun sl => (a sl).bind g
/-- enumerate of a list of data -/
def enumD (n : Nat) : List D → List D
  | [] => []
  | d :: r => .tup [.int (n : Nat), d] :: enumD (n + 1) r
def gEnum : List S → M Its'
  | [x] => fun st => match lstOf x st with
    | some ss => (datas ss).map fun ds => (.ok ((enumD 0 ds).map .val, fun st' => lstOf x st' = some ss), st)
    | none => none
  | _ => M.stuck
theorem enumD_get : ∀ {ds : List D} {n i : Nat} {d : D}, (enumD n ds)[i]? = some d → ∃ e, ds[i]? = some e ∧ d = .tup [.int ((n + i : Nat) : Int), e]
  | [], _, _, _, h => by simp [enumD] at h
  | e :: r, n, 0, d, h => by simp [enumD] at h; exact ⟨e, rfl, by rw [← h]; rfl⟩
  | e :: r, n, i + 1, d, h => by
    obtain ⟨e', h1, h2⟩ := enumD_get (n := n + 1) (i := i) (d := d) (ds := r) (by simpa [enumD] using h)
    exact ⟨e', by simpa using h1, by rw [h2]; congr 3; omega⟩
theorem enumD_length : ∀ {ds : List D} {n : Nat}, (enumD n ds).length = ds.length
  | [], _ => rfl
  | _ :: _, _ => by simp [enumD, enumD_length]
section
variable {X : Cx} {B : Hp} {W : WX} {tg e : Expr} {es : List Expr} {fa : ME} {fs : MA} {pos p : Pos}
theorem qi_seq (he : QE X B W e fa) : QI X B W tg e (iOf fa) := by
  refine PIimp (pi_seq he) fun s H R h => it_of h fun F rho st H x dx c rx q => ?_
  cases rx with
  | @obj k a hk =>
    simp only [gIter] at q
    match e1 : st[k]? with
    | some (.lst ss) =>
      rw [e1] at q
      obtain ⟨_, vs, hH, rs⟩ := c.own k a _ hk e1
      refine .inl ⟨a, rfl, ⟨vs, SqL.of hH⟩, q F rho H (Same.refl _) (Pre.refl _) c _ (jok_list (vs := vs) fun B F1 r1 st1 H1 e2 p2 c2 hC => ?_)⟩
      obtain ⟨_, vs', hH', rs'⟩ := c2.own k a _ (p2 _ _ hk) hC
      exact ⟨vs', SqL.of hH', rs'⟩
    | some (.frz _) => rw [e1] at q; exact q.elim
    | some (.ins _ _) => rw [e1] at q; exact q.elim
    | some (.dct _) => rw [e1] at q; exact q.elim
    | some (.dcn _) => rw [e1] at q; exact q.elim
    | some (.tup _) => rw [e1] at q; exact q.elim
    | none => rw [e1] at q; exact q.elim
  | val rx =>
    cases rx with
    | str z => exact .inr (.inr ⟨z, rfl, q F rho H (Same.refl _) (Pre.refl _) c _ jok_str⟩)
    | tup a b n => exact .inr (.inl ⟨_, rfl, ⟨_, SqT_mono c.same a⟩, q F rho H (Same.refl _) (Pre.refl _) c _ (jok_tup a b)⟩)
    | @lst a vs ds hF b => exact .inl ⟨_, rfl, ⟨_, SqL.of (c.same _ _ hF)⟩, q F rho H (Same.refl _) (Pre.refl _) c _ (jok_list (vs := vs) fun B F1 r1 st1 H1 e2 p2 c2 hC => ⟨vs, SqL.of (c2.same _ _ (e2 _ _ hF)), b.vals.mono e2 p2⟩)⟩
    | @scr a vs ds hF b => exact .inl ⟨_, rfl, ⟨_, c.same.seq hF⟩, q F rho H (Same.refl _) (Pre.refl _) c _ (jok_list (vs := vs) fun B F1 r1 st1 H1 e2 p2 c2 hC => ⟨vs, (e2.trans c2.same).seq hF, b.vals.mono e2 p2⟩)⟩
    | _ => exact q.elim
theorem qi_range1 (hm : X.mg "range" = none) (ha : QA X B W [e] fs) (hg : Gl X "range" := by rfl) (hs : starEach [e] X.env = [(false, eval e X.env)] := by rfl) : QI X B W tg (.Call (.Name "range" p) [e] [] pos) (iArgs gRange1 fs) := by
  refine PIimp (pi_range1 hg hm ha hs) fun s H R h => its_of h fun F rho st H x dx c rx q => ?_
  cases rx with
  | nil => exact q.elim
  | cons r t =>
    cases t with
    | cons _ _ => cases r with
      | obj _ => exact q.elim
      | val r => cases r <;> exact q.elim
    | nil =>
      cases r with
      | obj _ => exact q.elim
      | val r =>
        cases r with
        | int j =>
          simp only [gRange1] at q
          split at q
          · rename_i hb
            exact ⟨j, rfl, hb.1, hb.2, q F rho H (Same.refl _) (Pre.refl _) c _ jok_rng⟩
          · exact q.elim
        | _ => exact q.elim
theorem jok_enum {K : PySem.W.Frag} {mg : Str → Option Value} {F : Hp} {rho : List Addr} {a : Addr} {ds : List D} {C : List O → Prop} (hL : ∀ B F1 rho1 st1 H1, Same F F1 → Pre rho rho1 → Core K mg B F1 rho1 st1 H1 → C st1 → ∃ vs, SqL K H1 a vs ∧ Reps K mg F1 vs ds) : JOk K mg F rho (Ite K a) ((enumD 0 ds).map .val, C) := by
  refine ⟨fun B F1 rho1 st1 H1 i e p c hC hi => ?_, fun B F1 rho1 st1 H1 e p c hC => ?_⟩
  · obtain ⟨vs, hs, rs⟩ := hL B F1 rho1 st1 H1 e p c hC
    have hi2 : i < vs.length := by rw [rs.length]; simpa [enumD_length] using hi
    refine ⟨⟨vs, vs[i], hs, List.getElem?_eq_getElem hi2⟩, fun x H' ⟨T, y, ex, hT, eH, hy⟩ => ?_⟩
    subst eH
    subst ex
    refine ⟨upd F1 T (.tup [.int (i : Nat), y]), same_upd (c.same.free hT), c.alloc hT, fun d hd => ?_⟩
    rw [List.getElem?_map] at hd
    obtain ⟨d', h1, rfl⟩ := Option.map_eq_some_iff.mp hd
    obtain ⟨e', h2, rfl⟩ := enumD_get h1
    obtain ⟨v, h3, h4⟩ := rs.get h2
    have h5 := hy vs hs
    rw [h3] at h5; cases h5
    refine .val (.tup (SqT.of upd_same) (.cons ?_ (.cons (h4.mono (same_upd (c.same.free hT))) .nil)) fun z => by simp at z)
    rw [Nat.zero_add]
    exact .int _
  · obtain ⟨vs, hs, rs⟩ := hL B F1 rho1 st1 H1 e p c hC
    exact ⟨vs, hs, by rw [rs.length]; simp [enumD_length]⟩
theorem qi_enum {elts : List Expr} {kk : Nat} {tpos : Pos} (hm : X.mg "enumerate" = none) (ha : QA X B W [e] fs) (hg : Gl X "enumerate" := by rfl) (hs : starEach [e] X.env = [(false, eval e X.env)] := by rfl) :
    QI X B W (.Tuple elts kk tpos) (.Call (.Name "enumerate" p) [e] [] pos) (iArgs gEnum fs) := by
  refine PIimp (pi_enum hg hm ha hs) fun s H R h => its_of h fun F rho st H x dx c rx q => ?_
  cases rx with
  | nil => exact q.elim
  | @cons _ d0 _ _ r t =>
    cases t with
    | cons _ _ => exact q.elim
    | nil =>
      simp only [gEnum] at q
      match e1 : lstOf d0 st with
      | none => rw [e1] at q; exact q.elim
      | some ss =>
        rw [e1] at q
        dsimp only at q
        match e2 : datas ss with
        | none => rw [e2] at q; exact q.elim
        | some ds =>
          rw [e2] at q
          obtain ⟨a, vs, rfl, hH, rs⟩ := lst_at c r e1
          refine ⟨a, vs, rfl, SqL.of hH, q F rho H (Same.refl _) (Pre.refl _) c _ (jok_enum fun B F1 r1 st1 H1 e3 p3 c3 hC => ?_)⟩
          obtain ⟨a', vs', ea, hH', rs'⟩ := lst_at c3 (r.mono e3 p3) hC
          cases ea
          exact ⟨vs', SqL.of hH', rs'.datas e2⟩
end
end Cl
namespace Cl
open PySem L2
section
variable {K : PySem.W.Frag} {mg : Str → Option Value} {B F : Hp} {rho : List Addr} {st : List O} {H : Hp} {p : Addr}
theorem Core.frameIn {u : HO} (c : Core K mg B F rho st H) (h : H p = none) : Core K mg (upd B p u) F rho st (upd H p u) := by
  have hp : F p = none := c.same.free h
  have c1 := c.junk (u := u) h
  refine ⟨c1.same, same_upd2 c.frame, fun b q => ?_, fun k b e => ?_, c1.nd, c1.len, c1.own, c1.liv, c.tabs.mono (fun b o e _ => by rw [upd_ne (ne_of_none e h)]; exact e) (fun b o e _ z => by rw [upd_ne (ne_of_none e h)]; exact z) fun _ _ _ _ z => z⟩
  · rw [upd_ne (fun z => q (by rw [z]; exact hp))]; exact c.apart b q
  · rw [upd_ne (fun z => c.live k b e (by rw [z]; exact h))]; exact c.off k b e
theorem Core.frameW {u u' : HO} (c : Core K mg (upd B p u) F rho st H) (hu : Okx u := by first | exact True.intro | exact ⟨_, _, rfl⟩) : Core K mg (upd B p u') F rho st (upd H p u') := by
  have hp : F p = none := by
    cases q : F p with
    | none => rfl
    | some o => have := c.apart p (by rw [q]; exact fun z => by cases z); rw [upd_same] at this; cases this
  have off : ∀ (k : Nat) (b : Addr), rho[k]? = some b → b ≠ p := fun k b e z => by
    have := c.off k b e; rw [z, upd_same] at this; cases this
  have notp : ∀ {b : Addr} {o : HO}, H b = some o → Bad o → b ≠ p := fun {b o} e n z => by
    have e2 := c.frame p u upd_same
    rw [← z, e] at e2; cases e2; exact hu.no n
  refine ⟨same_upd1 c.same hp, ?_, fun b q => ?_, fun k b e => ?_, c.nd, c.len, fun k b o e1 e2 => ?_, fun k b e => ?_, c.tabs.mono (fun b o e n => by rw [upd_ne (notp e n)]; exact e) (fun b o e n z => by rw [upd_ne (notp e n)] at z ⊢; exact z) fun _ _ _ _ z => z⟩
  · intro b o q
    by_cases z : b = p
    · subst z; rw [upd_same] at q ⊢; exact q
    · rw [upd_ne z] at q ⊢; exact c.frame b o (by rw [upd_ne z]; exact q)
  · have nb : b ≠ p := fun z => q (by rw [z]; exact hp)
    have := c.apart b q
    rw [upd_ne nb] at this ⊢; exact this
  · have := c.off k b e
    rw [upd_ne (off k b e)] at this ⊢; exact this
  · exact (c.own k b o e1 e2).mono (Same.refl _) (Pre.refl _) (fun z => z) (fun u z => by rw [upd_ne (off k b e1)]; exact z)
  · rw [upd_ne (off k b e)]; exact c.liv k b e
theorem Core.frameOut {u : HO} (c : Core K mg (upd B p u) F rho st H) (hB : B p = none) : Core K mg B F rho st H := by
  refine ⟨c.same, fun b o q => c.frame b o (by rw [upd_ne (fun z => by rw [z, hB] at q; cases q)]; exact q), fun b q => ?_, fun k b e => ?_, c.nd, c.len, c.own, c.liv, fun P q i => ⟨?_, (c.tabs P q i).2⟩⟩
  · have := c.apart b q
    by_cases z : b = p
    · rw [z]; exact hB
    · rw [upd_ne z] at this; exact this
  · have := c.off k b e
    by_cases z : b = p
    · rw [z]; exact hB
    · rw [upd_ne z] at this; exact this
  · have := (c.tabs P q i).1
    by_cases z : P = p
    · rw [z]; exact hB
    · rw [upd_ne z] at this; exact this
theorem Core.frameAt {u : HO} (c : Core K mg (upd B p u) F rho st H) : H p = some u := c.frame p u upd_same
theorem Core.frameF {u : HO} (c : Core K mg (upd B p u) F rho st H) : F p = none := by
  cases q : F p with
  | none => rfl
  | some o => have := c.apart p (by rw [q]; exact fun z => by cases z); rw [upd_same] at this; cases this
/-- what was framed is frozen -/
theorem Core.frameFrz {u : HO} (c : Core K mg (upd B p u) F rho st H) (hB : B p = none) : Core K mg B (upd F p u) rho st H := by
  have hp := c.frameF
  have c1 := c.frameOut hB
  have off : ∀ (k : Nat) (b : Addr), rho[k]? = some b → b ≠ p := fun k b e z => by
    have := c.off k b e; rw [z, upd_same] at this; cases this
  refine ⟨fun b o q => ?_, c1.frame, fun b q => ?_, c1.off, c1.nd, c1.len, fun k b o e1 e2 => ?_, c1.liv, fun P q i => ⟨(c1.tabs P q i).1, ?_, (c1.tabs P q i).2.2⟩⟩
  · by_cases z : b = p
    · subst z; rw [upd_same] at q; cases q; exact c.frameAt
    · rw [upd_ne z] at q; exact c1.same b o q
  · by_cases z : b = p
    · rw [z]; exact hB
    · rw [upd_ne z] at q; exact c1.apart b q
  · exact (c1.own k b o e1 e2).mono (same_upd hp) (Pre.refl _) (fun z => by rw [upd_ne (off k b e1)]; exact z) (fun u z => z)
  · have np : P ≠ p := fun z => by have := (c.tabs P q i).1; rw [z, upd_same] at this; cases this
    rw [upd_ne np]; exact (c1.tabs P q i).2.1
end
@[simp] def wipeS (sl : Sl) : List Nat → Sl
  | [] => sl
  | v :: vs => (wipeS sl vs).set v none
theorem wipe_get (s : St) (vs : List Nat) (j : Nat) : (wipe s vs)[j]? = if j ∈ vs ∧ j < s.length then some none else s[j]? := by
  induction vs with
  | nil => simp [wipe]
  | cons v vs ih =>
    unfold wipe
    by_cases hj : j = v
    · subst hj
      by_cases hl : j < s.length
      · rw [List.getElem?_set_self (by rw [wipe_length]; exact hl), if_pos ⟨List.mem_cons_self, hl⟩]
      · rw [if_neg (fun z => hl z.2), List.getElem?_eq_none (by rw [List.length_set, wipe_length]; omega), List.getElem?_eq_none (by omega)]
    · rw [List.getElem?_set_ne (Ne.symm hj), ih]
      simp [hj]
theorem wipeS_length (s : Sl) (vs : List Nat) : (wipeS s vs).length = s.length := by
  induction vs with
  | nil => rfl
  | cons v vs ih => unfold wipeS; rw [List.length_set, ih]
theorem wipeS_get (s : Sl) (vs : List Nat) (j : Nat) : (wipeS s vs)[j]? = if j ∈ vs ∧ j < s.length then some none else s[j]? := by
  induction vs with
  | nil => simp [wipeS]
  | cons v vs ih =>
    unfold wipeS
    by_cases hj : j = v
    · subst hj
      by_cases hl : j < s.length
      · rw [List.getElem?_set_self (by rw [wipeS_length]; exact hl), if_pos ⟨List.mem_cons_self, hl⟩]
      · rw [if_neg (fun z => hl z.2), List.getElem?_eq_none (by rw [List.length_set, wipeS_length]; omega), List.getElem?_eq_none (by omega)]
    · rw [List.getElem?_set_ne (Ne.symm hj), ih]
      simp [hj]
theorem wipe_set (s : St) {vs : List Nat} {i : Nat} (hi : i ∈ vs) (x : Option V) : wipe (s.set i x) vs = wipe s vs := by
  apply List.ext_getElem?
  intro j
  rw [wipe_get, wipe_get, List.length_set]
  by_cases h : j ∈ vs ∧ j < s.length
  · rw [if_pos h, if_pos h]
  · rw [if_neg h, if_neg h]
    by_cases hj : j = i
    · subst hj
      have : ¬ j < s.length := fun z => h ⟨hi, z⟩
      rw [List.getElem?_eq_none (by rw [List.length_set]; omega), List.getElem?_eq_none (by omega)]
    · rw [List.getElem?_set_ne (Ne.symm hj)]
theorem Slots.wipe {K : PySem.W.Frag} {mg : Str → Option Value} {F : Hp} {rho : List Addr} {s : St} {sl : Sl} (S' : Slots K mg F rho s sl) (vs : List Nat) : Slots K mg F rho (L2.wipe s vs) (wipeS sl vs) := by
  refine ⟨by rw [wipe_length, wipeS_length, S'.len], fun j d q => ?_⟩
  rw [wipeS_get] at q
  rw [wipe_get]
  by_cases h : j ∈ vs ∧ j < sl.length
  · rw [if_pos h] at q; cases q
  · rw [if_neg h] at q
    rw [S'.len, if_neg h]
    exact S'.get j d q
/-- a comprehension's target: it stores in its own slots alone -/
structure CG (K : PySem.W.Frag) (mg : Str → Option Value) (vs : List Nat) (t : TG) (g : MG) : Prop where
  run : ∀ (B F : Hp) (rho : List Addr) (st : List O) (H : Hp) (v : V) (d : S) (s : St) (sl sl' : Sl) (st' : List O) (Q : St → Hp → Prop), Core K mg B F rho st H → Slots K mg F rho s sl → RepS K mg F rho v d → g d sl st = some (sl', st') →
    (∀ s', Slots K mg F rho s' sl' → L2.wipe s' vs = L2.wipe s vs → Q s' H) → t v s H Q
  stay : ∀ d sl st sl' st', g d sl st = some (sl', st') → st' = st
structure CGs (K : PySem.W.Frag) (mg : Str → Option Value) (vs : List Nat) (t : TGs) (g : MGs) : Prop where
  run : ∀ (B F : Hp) (rho : List Addr) (st : List O) (H : Hp) (us : List V) (ds : List S) (s : St) (sl sl' : Sl) (st' : List O) (Q : St → Hp → Prop), Core K mg B F rho st H → Slots K mg F rho s sl → RepSs K mg F rho us ds → g ds sl st = some (sl', st') →
    (∀ s', Slots K mg F rho s' sl' → L2.wipe s' vs = L2.wipe s vs → Q s' H) → t us s H Q
  stay : ∀ ds sl st sl' st', g ds sl st = some (sl', st') → st' = st
section
variable {K : PySem.W.Frag} {mg : Str → Option Value} {vs : List Nat}
theorem cg_name {i : Nat} (hi : i ∈ vs) : CG K mg vs (gName i) (tgName i) := by
  refine ⟨fun B F rho st H v d s sl sl' st' Q c S' r e h => ?_, fun d sl st sl' st' e => by cases e; rfl⟩
  cases e
  exact h _ (S'.set r i) (wipe_set s hi _)
theorem cgs_nil : CGs K mg vs gNil tgNil := by
  refine ⟨fun B F rho st H us ds s sl sl' st' Q c S' r e h => ?_, fun ds sl st sl' st' e => ?_⟩
  · cases r with
    | nil => cases e; exact ⟨rfl, h _ S' rfl⟩
    | cons _ _ => cases e
  · cases ds with
    | nil => cases e; rfl
    | cons _ _ => cases e
theorem cgs_cons {t : TG} {g : MG} {ts : TGs} {gs : MGs} (h1 : CG K mg vs t g) (h2 : CGs K mg vs ts gs) : CGs K mg vs (gCons t ts) (tgCons g gs) := by
  refine ⟨fun B F rho st H us ds s sl sl' st' Q c S' r e h => ?_, fun ds sl st sl' st' e => ?_⟩
  · cases r with
    | nil => cases e
    | @cons v d us ds r rs =>
      unfold tgCons at e
      dsimp only at e
      match q : g (rsvS d st) sl st with
      | none => rw [q] at e; cases e
      | some (sl1, st1) =>
        rw [q] at e
        dsimp only at e
        have := h1.stay _ _ _ _ _ q
        subst this
        refine ⟨v, us, rfl, h1.run B F rho _ H v _ s sl sl1 _ _ c S' (rsv_ok c r) q fun s1 S1 w1 => ?_⟩
        exact h2.run B F rho _ H us ds s1 sl1 sl' st' Q c S1 rs e fun s2 S2 w2 => h s2 S2 (w2.trans w1)
  · cases ds with
    | nil => cases e
    | cons d ds =>
      unfold tgCons at e
      dsimp only at e
      match q : g (rsvS d st) sl st with
      | none => rw [q] at e; cases e
      | some (sl1, st1) =>
        rw [q] at e
        exact (h2.stay _ _ _ _ _ e).trans (h1.stay _ _ _ _ _ q)
theorem cg_tup {n : Nat} {ts : TGs} {gs : MGs} (h : CGs K mg vs ts gs) : CG K mg vs (L2.gTup K n ts) (tgTup n gs) := by
  refine ⟨fun B F rho st H v d s sl sl' st' Q c S' r e k => ?_, fun d sl st sl' st' e => ?_⟩
  · unfold tgTup at e
    split at e
    · rename_i ds
      split at e
      · rename_i hl
        cases r with
        | val r => cases r with
          | tup a b n => exact ⟨_, _, rfl, SqT_mono c.same a, by rw [b.length]; exact hl, h.run B F rho st H _ _ s sl sl' st' Q c S' b.vals e k⟩
      · cases e
    · cases e
  · unfold tgTup at e
    split at e
    · split at e
      · exact h.stay _ _ _ _ _ e
      · cases e
    · cases e
end
open Classical in
/-- the turns: what is made so far, the slots at each turn's start -/
noncomputable def lcL (C : List O → Prop) (g : MG) (t : MT) (e : ME) (sl : Sl) : List S → List D → List O → Option (List D × List O)
  | [], acc, st => if C st then some (acc, st) else none
  | d :: ds, acc, st => if C st then (match g d sl st with
    | none => none
    | some (sl1, st1) => match t sl1 st1 with
      | some (.ok false, st2) => lcL C g t e sl ds acc st2
      | some (.ok true, st2) => (match (e sl1).bind toD st2 with
        | some (.ok y, st3) => if acc.length < sizeLine then lcL C g t e sl ds (acc ++ [y]) st3 else none
        | _ => none)
      | _ => none) else none
@[simp] noncomputable def eLc (vs : List Nat) (fi : MI) (g : MG) (t : MT) (e : ME) : ME := fun sl => (fi sl).bind fun w => fun st => (lcL w.2 g t e (wipeS sl vs) w.1 [] st).map fun r => (.ok (.val (.lst r.1)), r.2)
@[simp] def tTrue : MT := fun _ => M.pure true
abbrev W0 : WX := fun _ _ _ _ => False
section
variable {K : PySem.W.Frag} {mg : Str → Option Value} {B : Hp} {W : WX}
/-- the reading of a comprehension that makes data -/
theorem lc_data {fi : MI} {g : MG} {t : MT} {e : ME} {vs : List Nat} {tg : TG} {s : St} {H : Hp} {Q : VK} (cg : CG K mg vs tg g) (h : tE K mg B W (eLc vs fi g t e) s H Q) :
    tLc (tI K mg B W fi) tg (fun s H Q => ∃ B, tT K mg B W0 t s H Q) (fun s H Q => ∃ B, tE K mg B W0 e s H Q) vs s H Q := by
  obtain ⟨F, rho, sl, st, c, S', h⟩ := h
  refine ⟨F, rho, sl, st, c, S', h.bind.mono (Same.refl _) (Pre.refl _) (fun F1 r1 H1 w e1 p1 h1 J hJ => ?_) fun _ _ _ z => z⟩
  obtain ⟨st1, c1, _, _, h1⟩ := h1
  intro D hD
  have hB : B D = none := c1.frame.free hD
  have S1 := (S'.mono e1 p1).wipe vs
  -- the end that is wanted
  let Fin : Hp → List Addr → Option (List Cl.D × List O) → Prop := fun F2 r2 m => Post K mg B (fun F' rho' H' d => ∀ v, RepS K mg F' rho' v d → Q v H') (fun c d H' => W c d s H') F2 r2 (m.map fun r => (.ok (.val (.lst r.1)), r.2))
  have Finm : ∀ {F2 r2 F3 r3 m}, Fin F2 r2 m → Same F2 F3 → Pre r2 r3 → Fin F3 r3 m := fun {F2 r2 F3 r3 m} z e p => Post.mono z e p (fun _ _ _ _ _ _ y => y) (fun _ _ _ y => y)
  refine ⟨fun i m H' => i + m = w.1.length ∧ ∃ F2 r2 st2 acc accV, Same F1 F2 ∧ Pre r1 r2 ∧ Core K mg (upd B D (.lst accV)) F2 r2 st2 H' ∧ Reps K mg F2 accV acc ∧ Fin F2 r2 (lcL w.2 g t e (wipeS sl vs) (w.1.drop i) acc st2),
    ⟨w.1.length, by omega, F1, r1, st1, [], [], Same.refl _, Pre.refl _, c1.frameIn hD, .nil, h1⟩, ?_⟩
  rintro i m H2 ⟨hm, F2, r2, st2, acc, accV, e2, p2, c2, ra, h2⟩
  by_cases hi : i < w.1.length
  · right
    have hd : w.1.drop i = w.1[i] :: w.1.drop (i + 1) := List.drop_eq_getElem_cons hi
    rw [hd, lcL] at h2
    split at h2
    · rename_i hC
      obtain ⟨j1, j2⟩ := hJ.go _ F2 r2 st2 H2 i e2 p2 c2 hC hi
      refine ⟨j1, fun H' => i + 1 + (m - 1) = w.1.length ∧ ∃ F2 r2 st2 acc accV, Same F1 F2 ∧ Pre r1 r2 ∧ Core K mg (upd B D (.lst accV)) F2 r2 st2 H' ∧ Reps K mg F2 accV acc ∧ Fin F2 r2 (lcL w.2 g t e (wipeS sl vs) (w.1.drop (i + 1)) acc st2),
        fun H' z => ⟨m - 1, by omega, z⟩, fun x H' hy => ?_⟩
      obtain ⟨F3, e3, c3, r3⟩ := j2 x H' hy
      match q : g w.1[i] (wipeS sl vs) st2 with
      | none => rw [q] at h2; exact h2.elim
      | some (sl3, st3) =>
        rw [q] at h2
        dsimp only at h2
        have est := cg.stay _ _ _ _ _ q
        subst est
        refine cg.run _ F3 r2 _ H' x _ (L2.wipe s vs) (wipeS sl vs) sl3 _ _ c3 (S1.mono (e2.trans e3) p2) (r3 _ (List.getElem?_eq_getElem hi)) q fun s4 S4 w4 => ?_
        have ww : L2.wipe (L2.wipe s vs) vs = L2.wipe s vs := by
          apply List.ext_getElem?
          intro j
          rw [wipe_get, wipe_get, wipe_length]
          by_cases z : j ∈ vs ∧ j < s.length
          · rw [if_pos z, if_pos z]
          · rw [if_neg z]
        refine ⟨w4.trans ww, upd B D (.lst accV), F3, r2, sl3, _, c3, S4, ?_⟩
        match q2 : t sl3 st3 with
        | none => rw [q2] at h2; exact h2.elim
        | some (.error z, st4) => rw [q2] at h2; exact h2.elim
        | some (.ok false, st4) =>
          rw [q2] at h2
          intro F4 r4 H4 e4 p4 c4
          refine iteF ⟨by omega, F4, r4, st4, acc, accV, (e2.trans e3).trans e4, p2.trans p4, c4, ra.mono (e3.trans e4), Finm h2 (e3.trans e4) p4⟩
        | some (.ok true, st4) =>
          rw [q2] at h2
          dsimp only at h2
          intro F4 r4 H4 e4 p4 c4
          refine iteT ⟨upd B D (.lst accV), F4, r4, sl3, st4, c4, S4.mono e4 p4, ?_⟩
          -- the element
          have S4' := S4.mono e4 p4
          match q3 : e sl3 st4 with
          | none => simp only [M.bind, q3] at h2; exact h2.elim
          | some (.error z, st5) => simp only [M.bind, q3] at h2; exact h2.elim
          | some (.ok y, st5) =>
            simp only [M.bind, q3] at h2
            intro F5 r5 H5 e5 p5 c5 v rv
            match q4 : toD y st5 with
            | none => rw [q4] at h2; exact h2.elim
            | some (.error z, st6) => rw [q4] at h2; exact h2.elim
            | some (.ok dy, st6) =>
              rw [q4] at h2
              dsimp only at h2
              split at h2
              · rename_i hz
                have hp : Post K mg (upd B D (.lst accV)) (fun _ _ _ _ => True) (fun _ _ _ => True) F5 r5 (toD y st5) := by rw [q4]; exact fun _ _ _ _ _ _ => trivial
                obtain ⟨F6, st6', d6, e6, c6, r6, _, q6⟩ := toD_ok c5 rv hp
                rw [q4] at q6
                cases q6
                have ee := ((e3.trans e4).trans e5).trans e6
                refine ⟨accV, c6.frameAt, by rw [ra.length]; exact hz, by omega, F6, r5, _, acc ++ [_], accV ++ [v], (e2.trans ee), (p2.trans p4).trans p5, c6.frameW, (ra.mono ee).append (.cons r6 .nil), Finm h2 ee (p4.trans p5)⟩
              · exact h2.elim
    · exact h2.elim
  · left
    have hi2 : i = w.1.length := by omega
    subst hi2
    rw [List.drop_length, lcL] at h2
    split at h2
    · rename_i hC
      refine ⟨hJ.stop _ F2 r2 st2 H2 e2 p2 c2 hC, ?_⟩
      exact h2 (upd F2 D (.lst accV)) r2 H2 (same_upd c2.frameF) (Pre.refl _) (c2.frameFrz hB) _ (.val (.lst upd_same (ra.mono (same_upd c2.frameF))))
    · exact h2.elim
end
end Cl
namespace Cl
open PySem L2
section
variable {X : Cx} {B : Hp} {W : WX} {elt tg iter : Expr} {ifs : List Expr} {scope : Scope} {own : List (Str × Nat)} {pos : Pos} {fi : MI} {g : MG} {t : TG} {ft : MT} {fe : ME}
theorem PTs_ex {X : Cx} {W : WX} {ifs : List Expr} {ft : MT} (h : ∀ B, PTs X ifs (tT X.K X.mg B W ft)) : PTs X ifs (fun s H Q => ∃ B, tT X.K X.mg B W ft s H Q) := ⟨fun pins s σ H Q I ⟨B, q⟩ => (h B).run pins s σ H Q I q⟩
theorem PE_ex {X : Cx} {W : WX} {e : Expr} {fe : ME} (h : ∀ B, QE X B W e fe) : PE X e (fun s H Q => ∃ B, tE X.K X.mg B W fe s H Q) := ⟨fun pins s σ H Q I ⟨B, q⟩ => (h B).run pins s σ H Q I q⟩
abbrev QTs (X : Cx) (B : Hp) (W : WX) (ifs : List Expr) (f : MT) : Prop := PTs X ifs (tT X.K X.mg B W f)
theorem PTsimp {X : Cx} {ifs : List Expr} {t t' : TT} (h : PTs X ifs t) (i : ∀ s H Q, t' s H Q → t s H Q) : PTs X ifs t' := ⟨fun pins s σ H Q I q => h.run pins s σ H Q I (i _ _ _ q)⟩
theorem qts_nil {X : Cx} : QTs X B W [] tTrue := PTsimp pts_nil fun s H Q ⟨F, rho, sl, st, c, S', h⟩ => h.done c
theorem qts_one {X : Cx} {c : Expr} (h : QT X B W c ft) : QTs X B W [c] ft := pts_one h
theorem qe_lc (hc : X.calm = true) (hN : X.N.Nodup) (hi : QI X B W tg iter fi) (ok : BlkOk X.N X.env.scope scope own) (cg : CG X.K X.mg (own.map (·.2)) t g)
    (hg : ∀ (s : Shared) (H : Hp) (C : Addr) (cl : List (Str × Addr)) (fp : List Addr), PG (X.blk s H scope (compEnvC scope cl C X.env) fp) tg t)
    (ht : ∀ (B : Hp) (s : Shared) (H : Hp) (C : Addr) (cl : List (Str × Addr)) (fp : List Addr), QTs (X.blk s H scope (compEnvC scope cl C X.env) fp) B W0 ifs ft)
    (he : ∀ (B : Hp) (s : Shared) (H : Hp) (C : Addr) (cl : List (Str × Addr)) (fp : List Addr), QE (X.blk s H scope (compEnvC scope cl C X.env) fp) B W0 elt fe) (hs : ∀ x, foldedSetIterable iter X.env x = pure x := by intro _; rfl) :
    QE X B W (.ListComp elt [⟨tg, iter, ifs, 0⟩] scope pos) (eLc (own.map (·.2)) fi g ft fe) :=
  PEimp (pe_lc hc hN hi ok hg (fun s H C cl fp => PTs_ex fun B => ht B s H C cl fp) (fun s H C cl fp => PE_ex fun B => he B s H C cl fp) hs) fun s H Q q => lc_data cg q
theorem qs_setLc {i : Nat} {y : Str} {py spos : Pos} (hc : X.calm = true) (hN : X.N.Nodup) (hi : QI X B W tg iter fi) (ok : BlkOk X.N X.env.scope scope own) (cg : CG X.K X.mg (own.map (·.2)) t g)
    (hg : ∀ (s : Shared) (H : Hp) (C : Addr) (cl : List (Str × Addr)) (fp : List Addr), PG (X.blk s H scope (compEnvC scope cl C X.env) fp) tg t)
    (ht : ∀ (B : Hp) (s : Shared) (H : Hp) (C : Addr) (cl : List (Str × Addr)) (fp : List Addr), QTs (X.blk s H scope (compEnvC scope cl C X.env) fp) B W0 ifs ft)
    (he : ∀ (B : Hp) (s : Shared) (H : Hp) (C : Addr) (cl : List (Str × Addr)) (fp : List Addr), QE (X.blk s H scope (compEnvC scope cl C X.env) fp) B W0 elt fe)
    (hsw : swapsWith (.ListComp elt [⟨tg, iter, ifs, 0⟩] scope pos) (some (.Name y py)) spos.line X.env = pure true)
    (hy : X.N[i]? = some y := by rfl) (hyl : X.env.scope.names.lookup y = some .local := by rfl) (hs : ∀ x, foldedSetIterable iter X.env x = pure x := by intro _; rfl) :
    QS X B W (.Assign [.Name y py] (.ListComp elt [⟨tg, iter, ifs, 0⟩] scope pos) spos) (sSet i (eLc (own.map (·.2)) fi g ft fe)) :=
  PSimp (ps_setLc hc hN hy hyl hsw hi ok hg (fun s H C cl fp => PTs_ex fun B => ht B s H C cl fp) (fun s H C cl fp => PE_ex fun B => he B s H C cl fp) hs) fun N s H h => lc_data cg (stm_of h fun F rho sl st H v d c S' r p => p.nx c (S'.set r i))
end
def IpS (K : PySem.W.Frag) (mg : Str → Option Value) (r : TIp) (g : S → S → M S) : Prop := OpS K mg r g
@[simp] def sAug (i : Nat) (g : S → S → M S) (e : ME) : MS := fun sl st => match sl[i]? with
  | some (some x) => sBind (fun sl => (e sl).bind fun y => g (rsvS x st) y) (fun d sl st => some (.nx, sl.set i (some d), st)) sl st
  | _ => none
abbrev gAddI := gI (fun _ _ => true) fun i j => .int (i + j)
section
variable {K : PySem.W.Frag} {mg : Str → Option Value}
theorem is_add : IpS K mg (ipI fun i j => i + j) gAddI := fun W B F rho st H x y dx dy Q c rx ry h => os_I0 (g := fun i j => .int (i + j)) (fun _ _ _ => .int _) W B F rho st H x y dx dy Q c rx ry h
end
section
variable {X : Cx} {B : Hp} {W : WX} {e o : Expr} {fe fo : ME} {g : S → S → M S} {op : Operator} {ti : TIp} {pos pos' : Pos}
theorem qs_aug {i : Nat} {x : Str} (hN : X.N.Nodup) (ho : PIp X op ti) (hg : IpS X.K X.mg ti g) (he : QE X B W e fe) (hi : X.N[i]? = some x := by rfl) (hx : Loc X.env.scope x := by first | exact Or.inl rfl | exact Or.inr rfl) (hf : X.fn x = true ∨ X.env.scope.names.lookup x = some .local := by first | exact .inl rfl | exact .inr rfl | assumption) :
    QS X B W (.AugAssign (.Name x pos') op e pos) (sAug i g fe) := by
  refine PSimp (ps_aug hN hi hx he ho hf) fun N s H h => ?_
  obtain ⟨F, rho, sl, st, c, S', h⟩ := h
  unfold sAug at h
  match q : sl[i]? with
  | none => rw [q] at h; exact h.elim
  | some none => rw [q] at h; exact h.elim
  | some (some d) =>
    rw [q] at h
    dsimp only at h
    obtain ⟨v, hv, rv⟩ := S'.get i d q
    have rv := rsv_ok c rv
    refine ⟨v, hv, F, rho, sl, st, c, S', (PostS.bind S' h).bind.mono (Same.refl _) (Pre.refl _) (fun F1 r1 H1 dy e1 p1 h1 y ry => ?_) fun _ _ _ z => z⟩
    obtain ⟨st1, c1, _, _, h1⟩ := h1
    refine hg _ B F1 r1 st1 H1 v y _ dy _ c1 (rv.mono e1 p1) ry (h1.mono (Same.refl _) (Pre.refl _) (fun F2 r2 H2 d2 e2 p2 h2 z rz => ?_) fun _ _ _ z => z)
    obtain ⟨st2, c2, _, _, h2⟩ := h2
    exact h2.nx c2 ((S'.mono (e1.trans e2) (p1.trans p2)).set rz i)
/-- o.f op= e, o of the store -/
@[simp] def sFldAug (ns : List Str) (f : Str) (g : S → S → M S) (o v : ME) : MS := sBind o fun x => fun sl st => match x with
  | .obj k => match st[k]? with
    | some (.ins n fs) => if n ∈ ns ∧ fs.length < 1000 then (match fs.lookup f with
      | some d => sBind (fun sl => (v sl).bind fun y => g (rsvS d st) y) (fun z sl st' => match st'[k]? with
        | some (.ins n' fs') => if n' = n ∧ fs'.length < 1000 then some (.nx, sl, st'.set k (.ins n' (putD f z fs'))) else none
        | _ => none) sl st
      | none => none) else none
    | _ => none
  | _ => none
theorem qs_fldaug {f : Str} {ns : List Str} {value : Expr} {fv : ME} {tpos : Pos} (hc : ClsF X.K X.mg ns f) (hop : InOp X op ti) (hg : IpS X.K X.mg ti g) (ho : QE X B W o fo) (hv : QE X B W value fv) : QS X B W (.AugAssign (.Attribute o f tpos) op value pos) (sFldAug ns f g fo fv) := by
  refine PSimp (ps_fldaug ho hv hop) fun N s H h => stm_of h fun F rho sl st H x dx c S' rx p => ?_
  cases rx with
  | val _ => exact p.elim
  | @obj k a q =>
    dsimp only at p
    match e : st[k]? with
    | some (.ins n fs) =>
      rw [e] at p
      dsimp only at p
      split at p
      · rename_i hn
        match e2 : fs.lookup f with
        | none => rw [e2] at p; exact p.elim
        | some d =>
          rw [e2] at p
          dsimp only at p
          obtain ⟨hF, C, dx, fvs, hm, hH, rf⟩ := c.own k a _ q e
          obtain ⟨v, hv', rv⟩ := rf.lookup e2
          have rv := rsv_ok c rv
          refine ⟨a, C, dx, fvs, v, rfl, hH, (hc n hn.1 C hm).1, (hc n hn.1 C hm).2, hv', F, rho, sl, st, c, S', (PostS.bind S' p).bind.mono (Same.refl _) (Pre.refl _) (fun F1 r1 H1 dy e1 p1 h1 y ry => ?_) fun _ _ _ z => z⟩
          obtain ⟨st1, c1, _, _, h1⟩ := h1
          refine hg _ B F1 r1 st1 H1 v y _ dy _ c1 (rv.mono e1 p1) ry (h1.mono (Same.refl _) (Pre.refl _) (fun F2 r2 H2 d2 e3 p3 h2 z rz => ?_) fun _ _ _ z => z)
          obtain ⟨st2, c2, _, _, h2⟩ := h2
          match e4 : st2[k]? with
          | some (.ins n' fs') =>
            rw [e4] at h2
            dsimp only at h2
            split at h2
            · rename_i hn'
              have q2 := p3 _ _ (p1 _ _ q)
              obtain ⟨hF', C', dx', fvs', hm', hH', rf'⟩ := c2.own k a _ q2 e4
              rw [hn'.1, hm] at hm'
              cases hm'
              refine ⟨dx', fvs', hH', by rw [rf'.length]; exact hn'.2, ?_⟩
              exact h2.nx (c2.write q2 hF' ⟨hF', C, dx', _, by rw [hn'.1]; exact hm, upd_same, putD_rep rz rf'⟩) (S'.mono (e1.trans e3) (p1.trans p3))
            · exact h2.elim
          | some (.frz _) => rw [e4] at h2; exact h2.elim
          | some (.lst _) => rw [e4] at h2; exact h2.elim
          | some (.dct _) => rw [e4] at h2; exact h2.elim
          | some (.dcn _) => rw [e4] at h2; exact h2.elim
          | some (.tup _) => rw [e4] at h2; exact h2.elim
          | none => rw [e4] at h2; exact h2.elim
      · exact p.elim
    | some (.frz _) => rw [e] at p; exact p.elim
    | some (.lst _) => rw [e] at p; exact p.elim
    | some (.dct _) => rw [e] at p; exact p.elim
    | some (.dcn _) => rw [e] at p; exact p.elim
    | some (.tup _) => rw [e] at p; exact p.elim
    | none => rw [e] at p; exact p.elim
end
def gSetL (x y z : S) : List O → Option (List O) := fun st => match x, y with
  | .obj k, .val (.int i) => match st[k]? with
    | some (.lst ss) => match ixN ss.length i with
      | some j => some (st.set k (.lst (ss.set j z)))
      | none => none
    | _ => none
  | _, _ => none
theorem setL_ok {K : PySem.W.Frag} {mg : Str → Option Value} {B F : Hp} {rho : List Addr} {st st' : List O} {H : Hp} {x y z : V} {dx dy dz : S} {Q : Hp → Prop} (c : Core K mg B F rho st H) (rx : RepS K mg F rho x dx) (ry : RepS K mg F rho y dy) (rz : RepS K mg F rho z dz)
    (h : gSetL dx dy dz st = some st') (k : ∀ H', Core K mg B F rho st' H' → Q H') : rSetL x y z H Q := by
  cases rx with
  | val _ => cases h
  | @obj n a q =>
    cases ry with
    | obj _ => cases h
    | val ry =>
      cases ry with
      | int i =>
        simp only [gSetL] at h
        match e : st[n]? with
        | some (.lst ss) =>
          rw [e] at h
          dsimp only at h
          match e2 : ixN ss.length i with
          | none => rw [e2] at h; cases h
          | some j =>
            rw [e2] at h
            cases h
            obtain ⟨hF, vs, hH, rs⟩ := c.own n a _ q e
            exact ⟨a, vs, i, j, rfl, rfl, hH, by rw [rs.length]; exact e2, k _ (c.write q hF ⟨hF, _, upd_same, rs.set rz j⟩)⟩
        | some (.frz _) => rw [e] at h; cases h
        | some (.ins _ _) => rw [e] at h; cases h
        | some (.dct _) => rw [e] at h; cases h
        | some (.dcn _) => rw [e] at h; cases h
        | some (.tup _) => rw [e] at h; cases h
        | none => rw [e] at h; cases h
      | _ => cases h
@[simp] def sSetItem (o i v : ME) : MS := sBind (fun sl => (v sl).bind fun z => (o sl).bind fun x => (i sl).bind fun y => fun st => (gSetL x y z st).map fun st' => (.ok (), st')) fun _ => sNext
section
variable {X : Cx} {B : Hp} {W : WX} {o i e : Expr} {fo fi fe : ME} {pos pos' : Pos}
theorem qs_setItem (ho : QE X B W o fo) (hi : QE X B W i fi) (he : QE X B W e fe) (hs : swapsWithSole [.Subscript o i pos'] e pos.line X.env = pure false := by rfl) (hw : swappedStores [.Subscript o i pos'] e X.env = pure none := by rfl)
    (h1 : (assignEach [.Subscript o i pos'] X.env).map (·.2) = [assign (.Subscript o i pos') X.env] := by rfl)
    (ha : ∀ v, assign (.Subscript o i pos') X.env v = (do
      let ov ← holding [v] (eval o X.env)
      let iv ← holding [v, ov] (eval i X.env)
      standAt pos'
      holding [v, ov, iv] (setItem ov iv v)
      release [v, ov, iv] []) := by intro _; rfl) : QS X B W (.Assign [.Subscript o i pos'] e pos) (sSetItem fo fi fe) := by
  refine PSimp (ps_asg he (pg_sub ho hi set_list ha) hs hw h1) fun N s H h => ?_
  obtain ⟨F, rho, sl, st, c, S', h⟩ := h
  refine ⟨F, rho, sl, st, c, S', (PostS.bind S' h).bind.mono (Same.refl _) (Pre.refl _) (fun F1 r1 H1 dz e1 p1 h1 z rz => ?_) fun _ _ _ z => z⟩
  obtain ⟨st1, c1, _, _, h1⟩ := h1
  refine ⟨F1, r1, sl, st1, c1, S'.mono e1 p1, h1.bind.mono (Same.refl _) (Pre.refl _) (fun F2 r2 H2 dx e2 p2 h2 x rx => ?_) fun _ _ _ z => z⟩
  obtain ⟨st2, c2, _, _, h2⟩ := h2
  refine ⟨F2, r2, sl, st2, c2, S'.mono (e1.trans e2) (p1.trans p2), h2.bind.mono (Same.refl _) (Pre.refl _) (fun F3 r3 H3 dy e3 p3 h3 y ry => ?_) fun _ _ _ z => z⟩
  obtain ⟨st3, c3, _, _, h3⟩ := h3
  match q : gSetL dx dy dz st3 with
  | none => rw [q] at h3; exact h3.elim
  | some st4 =>
    rw [q] at h3
    refine setL_ok c3 (rx.mono e3 p3) ry (rz.mono (e2.trans e3) (p2.trans p3)) q fun H' c4 => ?_
    obtain ⟨st5, c5, _, _, h5⟩ := h3 F3 r3 H' (Same.refl _) (Pre.refl _) c4
    exact h5.nx c5 (S'.mono ((e1.trans e2).trans e3) ((p1.trans p2).trans p3))
end
def MtS (K : PySem.W.Frag) (mg : Str → Option Value) (r : V → List V → Hp → VK → Prop) (g : S → List S → M S) : Prop :=
  ∀ (W : Value → Option Addr → Hp → Prop) (B F : Hp) (rho : List Addr) (st : List O) (H : Hp) (x : V) (vs : List V) (dx : S) (ds : List S) (Q : VK), Core K mg B F rho st H → RepS K mg F rho x dx → RepSs K mg F rho vs ds →
    Post K mg B (fun F' rho' H' d => ∀ v, RepS K mg F' rho' v d → Q v H') W F rho (g dx ds st) → r x vs H Q
@[simp] def chkT (T : String) (x : S) : M Unit := fun st => match x with
  | .val (.str _) => if T = "str" then some (.ok (), st) else none
  | x => match lstOf x st with
    | some _ => if T = "list" then some (.ok (), st) else none
    | none => none
@[simp] def eBM (T : String) (g : S → List S → M S) (o : ME) (fs : MA) : ME := fun sl => (o sl).bind fun x => (chkT T x).bind fun _ => (fs sl).bind fun ss => g x ss
theorem chkT_ok {K : PySem.W.Frag} {mg : Str → Option Value} {B F : Hp} {rho : List Addr} {st st' : List O} {H : Hp} {x : V} {dx : S} {T : String} {r : Except XD Unit} (c : Core K mg B F rho st H) (rx : RepS K mg F rho x dx) (h : chkT T dx st = some (r, st')) : tyV K T x H ∧ st' = st ∧ r = .ok () := by
  unfold chkT at h
  split at h
  · cases rx with
    | val rx =>
      cases rx
      split at h
      · rename_i e; cases h; exact ⟨e, rfl, rfl⟩
      · cases h
  · match e : lstOf dx st with
    | none => rw [e] at h; cases h
    | some l =>
      rw [e] at h
      dsimp only at h
      split at h
      · rename_i eT
        cases h
        obtain ⟨a, vs, rfl, hH, rs⟩ := lst_at c rx e
        exact ⟨.inl ⟨eT, vs, SqL.of hH⟩, rfl, rfl⟩
      · cases h
section
variable {X : Cx} {B : Hp} {W : WX} {o e : Expr} {es : List Expr} {fo : ME} {fs : MA} {name : Str} {apos cpos : Pos} {T id : String} {r : V → List V → Hp → VK → Prop} {g : S → List S → M S}
theorem qe_bm (pa : PlainAttrs T) (slot : Slot T name id) (hty : typeOf (.builtin id) = pure (.type "method_descriptor")) (hm : MtR X id r) (hg : MtS X.K X.mg r g) (ho : QE X B W o fo) (ha : QA X B W (e :: es) fs)
    (hbase : attributeBase o name X.env (eval o X.env) = eval o X.env := by rfl)
    (hfew : ((backTo cpos (starEach (e :: es) X.env)).all (fun x => !x.1) && (backToKw cpos (keywordEach [] X.env)).all (fun x => x.1.isSome)
      && decide ((e :: es).length + ([] : List Keyword).length + (if ([] : List Keyword).isEmpty then 0 else 1) < 30)) = true := by rfl)
    (hline : (apos.endLine == cpos.line) = true := by rfl) (hs : starEach (e :: es) X.env = (false, eval e X.env) :: starEach es X.env := by rfl) (hplain : (backTo cpos (starEach es X.env)).any (·.1) = false := by rfl) :
    QE X B W (.Call (.Attribute o name apos) (e :: es) [] cpos) (eBM T g fo fs) := by
  refine PEimp (pe_bm pa slot hty hm ho ha hbase hfew hline hs hplain) fun s H Q q => one_of q fun F rho sl st H x dx c S' rx h => ?_
  unfold M.bind at h
  match q1 : chkT T dx st with
  | none => rw [q1] at h; exact h.elim
  | some (rr, st') =>
    obtain ⟨ty, rfl, rfl⟩ := chkT_ok c rx q1
    rw [q1] at h
    have h' : Post X.K X.mg B (fun F' rho' H' d => ∀ v, RepS X.K X.mg F' rho' v d → Q v H') (fun c d H' => W c d s H') F rho (((fs sl).bind fun ss => g dx ss) st') := h
    refine ⟨ty, F, rho, sl, _, c, S', h'.bind.mono (Same.refl _) (Pre.refl _) (fun F1 r1 H1 ds e1 p1 h1 vs rs => ?_) fun _ _ _ z => z⟩
    obtain ⟨st1, c1, _, _, h1⟩ := h1
    exact hg _ B F1 r1 st1 H1 x vs dx ds Q c1 (rx.mono e1 p1) rs h1
end
section
variable {K : PySem.W.Frag} {mg : Str → Option Value}
def gAppend : S → List S → M S
  | .obj k, [y] => fun st => match st[k]? with
    | some (.lst ss) => if ss.length < sizeLine then some (.ok (.val .non), st.set k (.lst (ss ++ [y]))) else none
    | _ => none
  | _, _ => M.stuck
theorem ms_append : MtS K mg rAppend gAppend := by
  intro W B F rho st H x vs dx ds Q c rx rs h
  cases rx with
  | val _ => exact h.elim
  | @obj k a q =>
    cases rs with
    | nil => exact h.elim
    | cons r t =>
      cases t with
      | cons _ _ => exact h.elim
      | nil =>
        simp only [gAppend] at h
        match e : st[k]? with
        | some (.lst ss) =>
          rw [e] at h
          dsimp only at h
          split at h
          · rename_i hz
            obtain ⟨hF, vs, hH, rs⟩ := c.own k a _ q e
            exact ⟨a, vs, _, rfl, rfl, hH, by rw [rs.length]; exact hz, h F rho _ (Same.refl _) (Pre.refl _) (c.write q hF ⟨hF, _, upd_same, rs.append (.cons r .nil)⟩) _ (.val .non)⟩
          · exact h.elim
        | some (.frz _) => rw [e] at h; exact h.elim
        | some (.ins _ _) => rw [e] at h; exact h.elim
        | some (.dct _) => rw [e] at h; exact h.elim
        | some (.dcn _) => rw [e] at h; exact h.elim
        | some (.tup _) => rw [e] at h; exact h.elim
        | none => rw [e] at h; exact h.elim
end
end Cl
namespace Cl
open PySem L2
def CallS (K : PySem.W.Frag) (mg : Str → Option Value) (r : List V → Hp → VK → Prop) (g : List S → M S) : Prop :=
  ∀ (W : Value → Option Addr → Hp → Prop) (B F : Hp) (rho : List Addr) (st : List O) (H : Hp) (vs : List V) (ds : List S) (Q : VK), Core K mg B F rho st H → RepSs K mg F rho vs ds →
    Post K mg B (fun F' rho' H' d => ∀ v, RepS K mg F' rho' v d → Q v H') W F rho (g ds st) → r vs H Q
section
variable {X : Cx} {B : Hp} {W : WX} {x : Str} {e : Expr} {es : List Expr} {fs : MA} {p pos : Pos} {id T : String} {r : List V → Hp → VK → Prop} {g : List S → M S}
theorem qe_callB (hc : CallR X (.builtin id) r) (hg' : CallS X.K X.mg r g) (hm : X.mg x = none) (hv : bootBuiltins x = some (.builtin id)) (ha : QA X B W (e :: es) fs) (hg : Gl X x := by rfl) (hn : x ≠ "__name__" := by decide) (hdb : (x == ("__debug__" : Str)) = false := by decide)
    (he : starEach (e :: es) X.env = (false, eval e X.env) :: starEach es X.env := by rfl) (hpl : (backTo pos (starEach es X.env)).any (·.1) = false := by rfl) : QE X B W (.Call (.Name x p) (e :: es) [] pos) (eArgs g fs) :=
  PEimp (pe_callB hc hg hm hv ha hn hdb he hpl) fun s H Q q => args_of q fun F rho st H vs ds c rs h => hg' _ B F rho st H vs ds Q c rs h
theorem qe_callTy (hc : CallR X (.type T) r) (hg' : CallS X.K X.mg r g) (hm : X.mg x = none) (hv : bootBuiltins x = some (.type T)) (ha : QA X B W (e :: es) fs) (hg : Gl X x := by rfl) (hn : x ≠ "__name__" := by decide) (hdb : (x == ("__debug__" : Str)) = false := by decide)
    (he : starEach (e :: es) X.env = (false, eval e X.env) :: starEach es X.env := by rfl) (hpl : (backTo pos (starEach es X.env)).any (·.1) = false := by rfl) : QE X B W (.Call (.Name x p) (e :: es) [] pos) (eArgs g fs) :=
  PEimp (pe_callTy hc hg hm hv ha hn hdb he hpl) fun s H Q q => args_of q fun F rho st H vs ds c rs h => hg' _ B F rho st H vs ds Q c rs h
end
section
variable {K : PySem.W.Frag} {mg : Str → Option Value}
/-- a def of one argument -/
theorem cs_one {r : List V → Hp → VK → Prop} {g : S → M S} (h : ∀ (W : Value → Option Addr → Hp → Prop) (B F : Hp) (rho : List Addr) (st : List O) (H : Hp) (x : V) (dx : S) (Q : VK), Core K mg B F rho st H → RepS K mg F rho x dx →
    Post K mg B (fun F' rho' H' d => ∀ v, RepS K mg F' rho' v d → Q v H') W F rho (g dx st) → r [x] H Q) : CallS K mg r (fun ds => match ds with | [x] => g x | _ => M.stuck) := by
  intro W B F rho st H vs ds Q c rs q
  cases rs with
  | nil => exact q.elim
  | cons r t =>
    cases t with
    | nil => exact h W B F rho st H _ _ Q c r q
    | cons _ _ => exact q.elim
@[simp] abbrev g1 (g : S → M S) : List S → M S := fun ds => match ds with | [x] => g x | _ => M.stuck
def rLenA (K : PySem.W.Frag) : List V → Hp → VK → Prop := fun xs H Q => (∃ p ys, xs = [.ref p] ∧ (SqL K H p ys ∨ SqT K H p ys) ∧ Q (.int ys.length) H) ∨ (∃ z, xs = [.str z] ∧ z.length ≤ sizeLine ∧ Q (.int z.length) H)
theorem call_lenA {X : Cx} : CallR X (.builtin "len") (rLenA X.K) := call_len_seq.or call_len_str
def gLen (x : S) : M S := fun st => match x with
  | .val (.str z) => if z.length ≤ sizeLine then ok1 (.int z.length) st else none
  | x => match seqOf x st with
    | some ss => ok1 (.int ss.length) st
    | none => none
theorem cs_len : CallS K mg (rLenA K) (g1 gLen) := cs_one fun W B F rho st H x dx Q c rx h => by
  unfold gLen at h
  split at h
  · rename_i z
    cases rx with
    | val rx =>
      cases rx
      split at h
      · rename_i hz
        exact .inr ⟨z, rfl, hz, h.done c _ (.val (.int _))⟩
      · exact h.elim
  · match e : seqOf dx st with
    | none => rw [e] at h; exact h.elim
    | some ss =>
      rw [e] at h
      obtain ⟨a, vs, rfl, hs, rs⟩ := seq_at c rx e
      exact .inl ⟨a, vs, rfl, hs, by rw [rs.length]; exact h.done c _ (.val (.int _))⟩
def gStr : S → M S
  | .val (.int i) => fun st => if i.natAbs.log2 < 1920 then ok1 (.str (toString i)) st else none
  | _ => M.stuck
theorem cs_str : CallS K mg (fun xs H Q => ∃ i, xs = [.int i] ∧ i.natAbs.log2 < 1920 ∧ Q (.str (toString i)) H) (g1 gStr) := cs_one fun W B F rho st H x dx Q c rx h => by
  cases rx with
  | obj _ => exact h.elim
  | val rx =>
    cases rx with
    | int i =>
      simp only [gStr] at h
      split at h
      · rename_i hz; exact ⟨i, rfl, hz, h.done c _ (.val (.str _))⟩
      · exact h.elim
    | _ => exact h.elim
def gInt : S → M S
  | .val (.str a) => fun st => match PySem.intText? a with
    | some n => if a.length ≤ 640 then ok1 (.int n) st else none
    | none => none
  | .val (.int i) => fun st => ok1 (.int i) st
  | .val (.bl b) => fun st => ok1 (.int (if b then 1 else 0)) st
  | _ => M.stuck
def rIntA : List V → Hp → VK → Prop := fun xs H Q => (∃ a n, xs = [.str a] ∧ PySem.intText? a = some n ∧ a.length ≤ 640 ∧ Q (.int n) H) ∨ ((∃ i, xs = [.int i] ∧ Q (.int i) H) ∨ ∃ k, xs = [.bl k] ∧ Q (.int (if k then 1 else 0)) H)
theorem call_intA {X : Cx} : CallR X (.type "int") rIntA := call_int_str.or call_int1
theorem cs_int : CallS K mg rIntA (g1 gInt) := cs_one fun W B F rho st H x dx Q c rx h => by
  cases rx with
  | obj _ => exact h.elim
  | val rx =>
    cases rx with
    | str a =>
      simp only [gInt] at h
      match e : PySem.intText? a with
      | none => rw [e] at h; exact h.elim
      | some n =>
        rw [e] at h
        dsimp only at h
        split at h
        · rename_i hz; exact .inl ⟨a, n, rfl, e, hz, h.done c _ (.val (.int _))⟩
        · exact h.elim
    | int i => exact .inr (.inl ⟨i, rfl, h.done c _ (.val (.int _))⟩)
    | bl b => exact .inr (.inr ⟨b, rfl, h.done c _ (.val (.int _))⟩)
    | _ => exact h.elim
def gAbs : S → M S
  | .val (.int i) => fun st => ok1 (.int (if i < 0 then -i else i)) st
  | _ => M.stuck
theorem cs_abs : CallS K mg (fun xs H Q => ∃ i, xs = [.int i] ∧ Q (.int (if i < 0 then -i else i)) H) (g1 gAbs) := cs_one fun W B F rho st H x dx Q c rx h => by
  cases rx with
  | obj _ => exact h.elim
  | val rx =>
    cases rx with
    | int i => exact ⟨i, rfl, h.done c _ (.val (.int _))⟩
    | _ => exact h.elim
def gTuple (x : S) : M S := fun st => match x with
  | .val (.tup l) => ok1 (.tup l) st
  | x => match (lstOf x st).bind datas with
    | some ds => ok1 (.tup ds) st
    | none => none
theorem cs_tuple : CallS K mg (fun xs H Q => ∃ p ys, xs = [.ref p] ∧ ((SqL K H p ys ∧ ∀ l o, H l = none → o.dict = none → Q (.ref l) (upd H l (.frz o (.tup ys)))) ∨ (SqT K H p ys ∧ Q (.ref p) H))) (g1 gTuple) := cs_one fun W B F rho st H x dx Q c rx h => by
  unfold gTuple at h
  split at h
  · cases rx with
    | val rx => cases rx with
      | tup a b n => exact ⟨_, _, rfl, .inr ⟨SqT_mono c.same a, h.done c _ (.val (.tup a b n))⟩⟩
  · match e : (lstOf dx st).bind datas with
    | none => rw [e] at h; exact h.elim
    | some ds =>
      rw [e] at h
      obtain ⟨ss, h1, h2⟩ := Option.bind_eq_some_iff.mp e
      obtain ⟨a, vs, rfl, hs, rs⟩ := lst_at c rx h1
      exact ⟨a, vs, rfl, .inl ⟨SqL.of hs, fun p o hp hd => h (upd F p (.frz o (.tup vs))) rho _ (same_upd (c.same.free hp)) (Pre.refl _) (c.alloc hp) _ (.val (.tup SqT.ofF ((rs.datas h2).mono (same_upd (c.same.free hp))) fun _ => NoD.of hd))⟩⟩
def boolsD : List D → Option (List Bool)
  | [] => some []
  | .bl i :: r => (boolsD r).map (i :: ·)
  | _ => none
theorem bools_ok {F : Hp} : ∀ {vs : List V} {ds : List D} {ns : List Bool}, Reps K mg F vs ds → boolsD ds = some ns → vs = ns.map V.bl
  | _, _, _, .nil, h => by cases h; rfl
  | _, _, _, .cons r t, h => by
    cases r with
    | bl i =>
      simp only [boolsD, Option.map_eq_some_iff] at h
      obtain ⟨l, h1, rfl⟩ := h
      rw [bools_ok t h1]; rfl
    | _ => cases h
def gAnyAll (f : List Bool → Bool) (x : S) : M S := fun st => match ((lstOf x st).bind datas).bind boolsD with
  | some ns => ok1 (.bl (f ns)) st
  | none => none
theorem lst_ints {α : Type} {B F : Hp} {rho : List Addr} {st : List O} {H : Hp} {x : V} {dx : S} {f : List D → Option α} {ns : α} (c : Core K mg B F rho st H) (rx : RepS K mg F rho x dx) (h : ((lstOf dx st).bind datas).bind f = some ns) :
    ∃ a vs ds, x = .ref a ∧ H a = some (.lst vs) ∧ Reps K mg F vs ds ∧ f ds = some ns := by
  obtain ⟨ds, h1, h2⟩ := Option.bind_eq_some_iff.mp h
  obtain ⟨ss, h3, h4⟩ := Option.bind_eq_some_iff.mp h1
  obtain ⟨a, vs, e, hs, rs⟩ := lst_at c rx h3
  exact ⟨a, vs, ds, e, hs, rs.datas h4, h2⟩
theorem cs_any : CallS K mg (rAny K) (g1 (gAnyAll fun l => l.any id)) := cs_one fun W B F rho st H x dx Q c rx h => by
  unfold gAnyAll at h
  match e : ((lstOf dx st).bind datas).bind boolsD with
  | none => rw [e] at h; exact h.elim
  | some ns =>
    rw [e] at h
    obtain ⟨a, vs, ds, rfl, hs, rs, hn⟩ := lst_ints c rx e
    exact ⟨a, ns, rfl, by rw [← bools_ok rs hn]; exact SqL.of hs, h.done c _ (.val (.bl _))⟩
end
@[simp] def eSl (g : S → Option Int → Option Int → M S) (a : ME) (lo hi : Option ME) : ME := fun sl => (a sl).bind fun x =>
  (match lo with
    | none => M.pure none
    | some f => (f sl).bind fun d => match d with
      | .val (.int i) => M.pure (some i)
      | _ => M.stuck).bind fun l =>
  (match hi with
    | none => M.pure none
    | some f => (f sl).bind fun d => match d with
      | .val (.int i) => M.pure (some i)
      | _ => M.stuck).bind fun u => g x l u
def cutD {α : Type} (xs : List α) (lo hi : Option Int) : List α := (xs.drop (HT.sIx xs.length 0 lo)).take (HT.sIx xs.length xs.length hi - HT.sIx xs.length 0 lo)
def gSl (x : S) (lo hi : Option Int) : M S := fun st => match x with
  | .val (.str z) => if z.length ≤ sizeLine then ok1 (.str (cutS z lo hi)) st else none
  | .val (.tup l) => ok1 (.tup (cutD l lo hi)) st
  | x => match (seqOf x st).bind datas with
    | some ds => ok1 (.lst (cutD ds lo hi)) st
    | none => none
section
variable {K : PySem.W.Frag} {mg : Str → Option Value} {B : Hp} {W : WX}
def rSlAll (K : PySem.W.Frag) : V → Option Int → Option Int → Hp → VK → Prop := fun x lo hi H Q => rSlS x lo hi H Q ∨ (rSlF K x lo hi H Q ∨ rSlL K x lo hi H Q)
theorem sl_all {X : Cx} : SlR X (rSlAll X.K) := sl_str.or (sl_tupF.or sl_list)
theorem cutV_rep {F : Hp} {vs : List V} {ds : List D} (rs : Reps K mg F vs ds) (lo hi : Option Int) : Reps K mg F (cutV vs lo hi) (cutD ds lo hi) := by
  unfold cutV cutD
  rw [rs.length]
  exact (rs.drop _).take _
def SlS (K : PySem.W.Frag) (mg : Str → Option Value) (r : V → Option Int → Option Int → Hp → VK → Prop) (g : S → Option Int → Option Int → M S) : Prop :=
  ∀ (W : Value → Option Addr → Hp → Prop) (B F : Hp) (rho : List Addr) (st : List O) (H : Hp) (x : V) (dx : S) (lo hi : Option Int) (Q : VK), Core K mg B F rho st H → RepS K mg F rho x dx →
    Post K mg B (fun F' rho' H' d => ∀ v, RepS K mg F' rho' v d → Q v H') W F rho (g dx lo hi st) → r x lo hi H Q
theorem ss_sl : SlS K mg (rSlAll K) gSl := by
  intro W B F rho st H x dx lo hi Q c rx h
  unfold gSl at h
  split at h
  · rename_i z
    cases rx with
    | val rx =>
      cases rx
      split at h
      · rename_i hz; exact .inl ⟨z, rfl, hz, h.done c _ (.val (.str _))⟩
      · exact h.elim
  · rename_i l
    cases rx with
    | val rx =>
      cases rx with
      | @tup a vs _ ha ra na =>
        refine .inr (.inl ⟨a, vs, rfl, SqT_mono c.same ha, fun hw => ?_, fun hw p o hp hd => ?_⟩)
        · have : cutD l lo hi = l := by
            unfold cutD
            rw [← ra.length, hw.1, hw.2]
            simp [ra.length]
          rw [this] at h
          exact h.done c _ (.val (.tup ha ra na))
        · exact h (upd F p (.frz o (.tup (cutV vs lo hi)))) rho _ (same_upd (c.same.free hp)) (Pre.refl _) (c.alloc hp) _ (.val (.tup SqT.ofF ((cutV_rep ra lo hi).mono (same_upd (c.same.free hp))) fun _ => NoD.of hd))
  · rename_i hx1 hx2
    match e : (seqOf dx st).bind datas with
    | none => rw [e] at h; exact h.elim
    | some ds =>
      rw [e] at h
      obtain ⟨ss, h1, h2⟩ := Option.bind_eq_some_iff.mp e
      have hL : ∃ a vs, x = .ref a ∧ SqL K H a vs ∧ RepSs K mg F rho vs ss := by
        cases rx with
        | @obj k a q =>
          obtain ⟨a, vs, e, hh, rr⟩ := lst_at (d := .obj k) c (.obj q) h1
          exact ⟨a, vs, e, SqL.of hh, rr⟩
        | val rx =>
          cases rx with
          | lst a b => cases h1; exact ⟨_, _, rfl, SqL.of (c.same _ _ a), b.vals⟩
          | scr a b => cases h1; exact ⟨_, _, rfl, c.same.seq a, b.vals⟩
          | tup a b n => exact (hx2 _ rfl).elim
          | _ => cases h1
      obtain ⟨a, vs, rfl, hs, rs⟩ := hL
      refine .inr (.inr ⟨a, vs, rfl, hs, fun p hp => ?_⟩)
      exact h (upd F p (.lst (cutV vs lo hi))) rho _ (same_upd (c.same.free hp)) (Pre.refl _) (c.alloc hp) _ (.val (.lst upd_same ((cutV_rep (rs.datas h2) lo hi).mono (same_upd (c.same.free hp)))))
/-- a slice's part -/
@[simp] def oM (o : Option ME) : Sl → M (Option Int) := fun sl => match o with
  | none => M.pure none
  | some f => (f sl).bind fun d => match d with
    | .val (.int i) => M.pure (some i)
    | _ => M.stuck
def tO (K : PySem.W.Frag) (mg : Str → Option Value) (B : Hp) (W : WX) (f : Sl → M (Option Int)) : TO := fun s H Q => ∃ F rho sl st, Core K mg B F rho st H ∧ Slots K mg F rho s sl ∧ Post K mg B (fun F' rho' H' o => Q o H') (fun c d H' => W c d s H') F rho (f sl st)
end
section
variable {X : Cx} {B : Hp} {W : WX} {e lo hi : Expr} {fe fl fh : ME} {pos p2 : Pos} {r : V → Option Int → Option Int → Hp → VK → Prop} {g : S → Option Int → Option Int → M S} {a b : Option Expr} {fa fb : Option ME}
abbrev QO (X : Cx) (B : Hp) (W : WX) (a : Option Expr) (f : Option ME) : Prop := PO X a (tO X.K X.mg B W (oM f))
theorem POimp {X : Cx} {a : Option Expr} {t t' : TO} (h : PO X a t) (i : ∀ s H Q, t' s H Q → t s H Q) : PO X a t' := ⟨fun pins s σ H Q I q => h.run pins s σ H Q I (i _ _ _ q)⟩
theorem qo_none : QO X B W none none := POimp po_none fun s H Q ⟨F, rho, sl, st, c, S', h⟩ => h.done c
theorem qo_some (he : QE X B W e fe) : QO X B W (some e) (some fe) := POimp (po_some he) fun s H Q ⟨F, rho, sl, st, c, S', h⟩ => by
  refine ⟨F, rho, sl, st, c, S', Post.mono (Post.bind h) (Same.refl _) (Pre.refl _) (fun F1 r1 H1 d e1 p1 h1 v rv => ?_) fun _ _ _ z => z⟩
  obtain ⟨st1, c1, _, _, h1⟩ := h1
  cases rv with
  | obj _ => exact h1.elim
  | val rv =>
    cases rv with
    | int i => exact ⟨i, rfl, h1.done c1⟩
    | _ => exact h1.elim
theorem qe_slice (hr : SlR X r) (hg : SlS X.K X.mg r g) (he : QE X B W e fe) (ha : QO X B W a fa) (hb : QO X B W b fb) : QE X B W (.Subscript e (.Slice a b none p2) pos) (eSl g fe fa fb) := by
  refine PEimp (pe_slice hr he ha hb) fun s H Q q => ?_
  obtain ⟨F, rho, sl, st, c, S', h⟩ := q
  refine ⟨F, rho, sl, st, c, S', h.bind.mono (Same.refl _) (Pre.refl _) (fun F1 r1 H1 dx e1 p1 h1 x rx => ?_) fun _ _ _ z => z⟩
  obtain ⟨st1, c1, _, _, h1⟩ := h1
  refine ⟨F1, r1, sl, st1, c1, S'.mono e1 p1, Post.mono (Post.bind (m := oM fa sl) h1) (Same.refl _) (Pre.refl _) (fun F2 r2 H2 l e2 p2 h2 => ?_) fun _ _ _ z => z⟩
  obtain ⟨st2, c2, _, _, h2⟩ := h2
  refine ⟨F2, r2, sl, st2, c2, S'.mono (e1.trans e2) (p1.trans p2), Post.mono (Post.bind (m := oM fb sl) h2) (Same.refl _) (Pre.refl _) (fun F3 r3 H3 u e3 p3 h3 => ?_) fun _ _ _ z => z⟩
  obtain ⟨st3, c3, _, _, h3⟩ := h3
  exact hg _ B F3 r3 st3 H3 x dx l u Q c3 (rx.mono (e2.trans e3) (p2.trans p3)) h3
end
end Cl
namespace L2
open PySem PySem.Spec PyProof.Rows
/-- what the written part says of the class at G whose __init__ is ValueError's -/
structure GInit (K : PySem.W.Frag) (G : Addr) : Prop where
  ga : PySem.W.specialIn K (.ref G) "__getattribute__" = some (some (.builtin "type.__getattribute__"))
  rd : PySem.W.readsIn K G (.type "type") = true
  at_ : PySem.W.findCls K (.ref G) (.type "type") "__init__" = some (.val (.builtin "ValueError.__init__"))
section
variable {X : Cx} {o e : Expr} {es : List Expr} {to te : TE} {ta : TA} {f x : Str} {p p' p1 p2 pos : Pos} {G : Addr}
/-- G.__init__(self, ..) -/
theorem pe_geinit {pl : Sem Bool} (hm : X.mg x = some (.ref G)) (T : GInit X.K G) (ha : PA X (e :: es) ta) (hg : Gl X x := by rfl) (hd : (x == ("__debug__" : Str)) = false := by decide)
    (hc : eval (.Call (.Attribute (.Name x p1) "__init__" p2) (e :: es) [] pos) X.env = (do
      let ov ← eval (.Name x p1) X.env
      standAt p2.atName
      let (f, first) ← holding [ov] (getMethod ov "__init__" pl)
      callWith pos f first (backTo pos (starEach (e :: es) X.env)) (backToKw pos (keywordEach [] X.env))) := by rfl)
    (he : starEach (e :: es) X.env = (false, eval e X.env) :: starEach es X.env := by rfl) (hpl : (backTo pos (starEach es X.env)).any (·.1) = false := by rfl) :
    PE X (.Call (.Attribute (.Name x p1) "__init__" p2) (e :: es) [] pos) (tVeI X.K ta) := by
  refine ⟨fun pins s σ H Q I h => ?_⟩
  refine PySem.W.methodCall_KW (ld_glob I hg hm ?_ hd) hc
  refine PySem.W.method_cls I.kIn T.ga (PySem.W.cls_value I.kIn T.rd T.at_ (by decide +kernel) ?_)
  show wpAny _ _ (callWith pos (Value.builtin "ValueError.__init__") [] (backTo pos (starEach (e :: es) X.env)) []) _ _ _
  refine PyProof.Rows.callWith_method1 (thn (ha.run pos pins _ σ H _ (I.tok _) h) fun us s1 ⟨vs, H1, I1, r1, a, C, ws, ev, hl, T, ea, q⟩ => ?_) he hpl
  subst ev
  cases r1 with
  | @cons _ u0 _ ur ra rw' =>
    obtain rfl : u0 = Value.ref a := ra
    have hlen : ur.length ≤ sizeLine := by
      rw [← Paired.length rw', sizeLine_eq]
      omega
    exact oinit_ok T I1 ea hlen fun s' J => ⟨.non, H1, J, rfl, q⟩
end
/-- an __init__ that stores its arguments as attributes: fs, the last one first -/
def spX (C : Addr) (n : Nat) (mk : List V → List (Str × V)) : Sp := fun vs H Q _ => ∃ a ws, vs = .ref a :: ws ∧ ws.length = n ∧ H a = some (exo a C none) ∧
  ∀ d H2, H d = none → d ≠ a → H2 a = some (exo a C (some d)) → H2 d = some (exd d (mk ws)) → (∀ b, b ≠ a → b ≠ d → H2 b = H b) → Q .non H2
theorem xinit2 {K : PySem.W.Frag} {C a : Addr} {H : Hp} {f1 f2 : Str} {v1 v2 : V} {N : Ends} (T : OexC K C) (n1 : PySem.W.findIn K (.ref C) f1 = some none) (n2 : PySem.W.findIn K (.ref C) f2 = some none) (ha : H a = some (exo a C none))
    (k : ∀ s d H2, H d = none → d ≠ a → H2 a = some (exo a C (some d)) → H2 d = some (exd d [(f2, v2), (f1, v1)]) → (∀ b, b ≠ a → b ≠ d → H2 b = H b) → N.nx s H2) :
    tSeq (tDrop (tVeI K (tCons (tVar 0) (tCons (tVar 1) (tCons (tVar 2) tNil))))) (tSeq (tOst K f1 (tVar 0) (tVar 1)) (tOst K f2 (tVar 0) (tVar 2))) N [some (.ref a), some v1, some v2] H := by
  refine ⟨_, rfl, _, rfl, _, rfl, a, C, _, rfl, by simp, T, ha, ?_⟩
  refine ⟨_, rfl, _, rfl, a, C, rfl, T, n1, .inl ⟨ha, fun d hd hne => ?_⟩⟩
  refine ⟨_, rfl, _, rfl, a, C, rfl, T, n2, .inr ⟨d, _, upd_same, by rw [upd_ne hne, upd_same], by simp, ?_⟩⟩
  exact k _ d _ hd hne (by rw [upd_ne (Ne.symm hne), upd_same]) upd_same fun b h1 h2 => by rw [upd_ne h2, upd_ne h1, upd_ne h2]
theorem xinit3 {K : PySem.W.Frag} {C a : Addr} {H : Hp} {f1 f2 f3 : Str} {v1 v2 v3 : V} {N : Ends} (T : OexC K C) (n1 : PySem.W.findIn K (.ref C) f1 = some none) (n2 : PySem.W.findIn K (.ref C) f2 = some none) (n3 : PySem.W.findIn K (.ref C) f3 = some none) (ha : H a = some (exo a C none))
    (k : ∀ s d H2, H d = none → d ≠ a → H2 a = some (exo a C (some d)) → H2 d = some (exd d [(f3, v3), (f2, v2), (f1, v1)]) → (∀ b, b ≠ a → b ≠ d → H2 b = H b) → N.nx s H2) :
    tSeq (tDrop (tVeI K (tCons (tVar 0) (tCons (tVar 1) (tCons (tVar 2) (tCons (tVar 3) tNil)))))) (tSeq (tOst K f1 (tVar 0) (tVar 1)) (tSeq (tOst K f2 (tVar 0) (tVar 2)) (tOst K f3 (tVar 0) (tVar 3)))) N [some (.ref a), some v1, some v2, some v3] H := by
  refine ⟨_, rfl, _, rfl, _, rfl, _, rfl, a, C, _, rfl, by simp, T, ha, ?_⟩
  refine ⟨_, rfl, _, rfl, a, C, rfl, T, n1, .inl ⟨ha, fun d hd hne => ?_⟩⟩
  refine ⟨_, rfl, _, rfl, a, C, rfl, T, n2, .inr ⟨d, _, upd_same, by rw [upd_ne hne, upd_same], by simp, ?_⟩⟩
  refine ⟨_, rfl, _, rfl, a, C, rfl, T, n3, .inr ⟨d, _, by rw [upd_ne (Ne.symm hne), upd_same], upd_same, by simp, ?_⟩⟩
  exact k _ d _ hd hne (by rw [upd_ne (Ne.symm hne), upd_ne (Ne.symm hne), upd_same]) upd_same fun b h1 h2 => by rw [upd_ne h2, upd_ne h2, upd_ne h1, upd_ne h2]
end L2
namespace Cl
open PySem L2
/-- attributes, the last one first -/
def backF {α : Type} (fn : List Str) (ds : List α) : List (Str × α) := (fn.zip ds).reverse
section
variable {K : PySem.W.Frag} {mg : Str → Option Value} {F : Hp}
theorem RepF.append : ∀ {xs ys : List (Str × V)} {us ws : List (Str × D)}, RepF K mg F xs us → RepF K mg F ys ws → RepF K mg F (xs ++ ys) (us ++ ws)
  | _, _, _, _, .nil, s => s
  | _, _, _, _, .cons r t, s => .cons r (RepF.append t s)
theorem repF_zip : ∀ (fn : List Str) {vs : List V} {ds : List D}, Reps K mg F vs ds → RepF K mg F (fn.zip vs).reverse (fn.zip ds).reverse
  | [], _, _, _ => .nil
  | _ :: _, _, _, .nil => .nil
  | f :: fn, _, _, .cons r t => by
    simp only [List.zip_cons_cons, List.reverse_cons]
    exact (repF_zip fn t).append (.cons r .nil)
end
@[simp] def sRaise (n : Str) (fn : List Str) (args : MA) : MS := sBind (fun sl => (args sl).bind toDs) fun ds sl st => if ds.length = fn.length ∧ 0 < fn.length ∧ fn.length ≤ 1000 then some (.xc ⟨n, backF fn ds⟩, sl, st) else none
@[simp] def sRaise0 (n : Str) : MS := fun sl st => some (.xc ⟨n, []⟩, sl, st)
section
variable {X : Cx} {B : Hp} {W : WX} {x : Str} {C fI : Addr} {k n : Nat} {fd : FuncData} {ps : List Str} {fn : List Str} {e : Expr} {es : List Expr} {fs : MA} {p p2 pos pos2 : Pos}
theorem qs_raiseX (hc : X.calm = true) (tk : Takes X W) (T : OexC X.K C) (iC : PySem.W.findIn X.K (.ref C) "__init__" = some (some (.ref fI))) (tI : PySem.W.typeIn X.K (.ref fI) = some (.type "function"))
    (Fn : FnOk X.prog X.w X.K X.mg X.base (L2N.CX X.prog X.w) k fI fd ps (spX C fn.length fun ws => backF fn ws)) (hr : Room (k + 1) X.A) (hb : Binds X.K fd ps []) (hm : X.mg x = some (.ref C)) (ha : QA X B W (e :: es) fs) (hg : Gl X x := by rfl)
    (hdb : (x == ("__debug__" : Str)) = false := by decide) (he : starEach (e :: es) X.env = (false, eval e X.env) :: starEach es X.env := by rfl) (hpl : (backTo pos (starEach es X.env)).any (·.1) = false := by rfl) :
    QS X B W (.Raise (some (.Call (.Name x p) (e :: es) [] pos)) none pos2) (sRaise x fn fs) := by
  refine PSimp (L2N.ps_raise hc tk (L2N.make_own T iC tI Fn hr hb L2N.passLN hg hm ha hdb he hpl)) fun N s H h => ?_
  obtain ⟨F, rho, sl, st, c, S', h⟩ := h
  refine ⟨F, rho, sl, st, c, S', (PostS.bind S' h).bind.mono (Same.refl _) (Pre.refl _) (fun F1 r1 H1 ss e1 p1 h1 vs rs => ?_) fun _ _ _ z => z⟩
  obtain ⟨st1, c1, _, _, h1⟩ := h1
  obtain ⟨F2, _, ds, e2, _, r2, ⟨st2, c2, _, _, h2⟩⟩ := toDs_ok c1 rs h1
  split at h2
  · rename_i hl
    have hv : vs.length = fn.length := by rw [r2.length]; exact hl.1
    refine ⟨by rw [hv]; exact hl.2.2, fun a na => ⟨a, vs ++ [], rfl, by rw [List.append_nil]; exact hv, upd_same, fun d H2 nd nda ha2 hd2 hk => ⟨rfl, d, _, ha2, hd2, ?_, ?_⟩⟩⟩
    · rw [upd_ne nda] at nd; exact nd
    · have nd1 : H1 d = none := by rw [upd_ne nda] at nd; exact nd
      rw [List.append_nil]
      have eH : upd (del H2 a) d (.xd (backF fn vs)) = upd H1 d (.xd (backF fn vs)) := by
        funext b
        by_cases h1 : b = d
        · subst h1; rw [upd_same, upd_same]
        · rw [upd_ne h1, upd_ne h1]
          by_cases h2 : b = a
          · subst h2; rw [del_same]; exact na.symm
          · rw [del_ne h2, hk b h2 h1, upd_ne h2]
      rw [eH]
      have c3 := c2.alloc (u := .xd (backF fn vs)) nd1
      refine h2 _ r1 _ s (same_upd (c2.same.free nd1)) (Pre.refl _) c3 (S'.mono ((e1.trans e2).trans (same_upd (c2.same.free nd1))) p1) _ _ ⟨C, hm, rfl, ?_⟩
      have rf : RepF X.K X.mg (upd F2 d (.xd (backF fn vs))) (backF fn vs) (backF fn ds) := repF_zip fn (r2.mono (same_upd (c2.same.free nd1)))
      have hne : backF fn ds ≠ [] := by
        intro z
        have := congrArg List.length z
        unfold backF at this
        simp only [List.length_reverse, List.length_zip, List.length_nil] at this
        omega
      match q : backF fn ds with
      | [] => exact absurd q hne
      | y :: ys => exact ⟨d, _, rfl, upd_same, by rw [← q]; exact rf⟩
  · exact h2.elim
end
end Cl
namespace Cl
open PySem L2
theorem hu65 {k : Nat} {A : Around} (hr : Room k A) : A.units + 65 < cLine := by have := hr.un; omega
section
variable (P : Program) (w : World) (K : PySem.W.Frag) (mg : Str → Option Value) (base : Heap)
/-- a def of the module, by data | over the store -/
def CallPOk (x : Str) (k n : Nat) (dds : List D) (f : PF) : Prop := ∃ (fa : Addr) (fd : FuncData) (ps : List Str) (dvs : List V) (dsv : List Value), FnOk P w K mg base (L2N.CX P w) k fa fd ps (spP K mg n f) ∧ mg x = some (.ref fa) ∧ PySem.W.keepIn K (.ref fa) = true ∧ Binds K fd ps dsv ∧ Vals dvs dsv ∧ (∀ F, Reps K mg F dvs dds)
def CallOOk (x : Str) (k n : Nat) (dds : List D) (f : OF) : Prop := ∃ (fa : Addr) (fd : FuncData) (ps : List Str) (dvs : List V) (dsv : List Value), FnOk P w K mg base (L2N.CX P w) k fa fd ps (spO K mg n f) ∧ mg x = some (.ref fa) ∧ PySem.W.keepIn K (.ref fa) = true ∧ Binds K fd ps dsv ∧ Vals dvs dsv ∧ (∀ F, Reps K mg F dvs dds)
def MethOOk (c m : Str) (k n : Nat) (dds : List D) (f : OF) : Prop := ∃ (C fa : Addr) (fd : FuncData) (ps : List Str) (dvs : List V) (dsv : List Value), mg c = some (.ref C) ∧ Cls K C ∧ Meth K C m fa ∧ FnOk P w K mg base (L2N.CX P w) k fa fd ps (spO K mg n f) ∧ Binds K fd ps dsv ∧ Vals dvs dsv ∧ (∀ F, Reps K mg F dvs dds)
/-- a class -/
def MakeMOk (x : Str) (k n : Nat) (dds : List D) (f : PF) : Prop := ∃ (C fa : Addr) (fd : FuncData) (ps : List Str) (dvs : List V) (dsv : List Value), mg x = some (.ref C) ∧ Mk K C fa ∧ FnOk P w K mg base (L2N.CX P w) k fa fd ps (spM K mg x n f) ∧ Binds K fd ps dsv ∧ Vals dvs dsv ∧ (∀ F, Reps K mg F dvs dds)
def MakeOOk (x : Str) (k n : Nat) (dds : List D) (f : OF) : Prop := ∃ (C fa : Addr) (fd : FuncData) (ps : List Str) (dvs : List V) (dsv : List Value), mg x = some (.ref C) ∧ Mk K C fa ∧ FnOk P w K mg base (L2N.CX P w) k fa fd ps (spO K mg n f) ∧ Binds K fd ps dsv ∧ Vals dvs dsv ∧ (∀ F, Reps K mg F dvs dds)
/-- an error class with attributes | without -/
def RaiseXOk (x : Str) (fn : List Str) (k : Nat) : Prop := ∃ (C fI : Addr) (fd : FuncData) (ps : List Str), OexC K C ∧ PySem.W.findIn K (.ref C) "__init__" = some (some (.ref fI)) ∧ PySem.W.typeIn K (.ref fI) = some (.type "function") ∧ FnOk P w K mg base (L2N.CX P w) k fI fd ps (spX C fn.length fun ws => backF fn ws) ∧ Binds K fd ps [] ∧ mg x = some (.ref C)
/-- constants -/
def GInt (x : Str) (i : Int) : Prop := ∃ t, mg x = some (.int i t)
def GStr (x z : Str) : Prop := ∃ t, mg x = some (.str z t)
def GTupS (x : Str) (zs : List Str) : Prop := ∃ a, mg x = some (.ref a) ∧ (∀ H, SqT K H a (zs.map V.str)) ∧ ∃ o, K.lookup a = some o ∧ o.cls = .type "tuple" ∧ o.dict = none
end
section
variable {X : Cx} {B : Hp} {W : WX} {k j n : Nat} {dds : List D} {x c m : Str} {p p2 pos apos pos2 : Pos} {e o : Expr} {es : List Expr} {fs : MA} {fo : ME} {f : PF} {g : OF} {pl : Sem Bool} {fn : List Str}
theorem qe_gInt {i : Int} (h : GInt X.mg x i) (hg : Gl X x := by rfl) (hd : (x == ("__debug__" : Str)) = false := by decide) : QE X B W (.Name x pos) (eC (.int i)) := by
  obtain ⟨t, h⟩ := h
  exact qe_glob (v := .int i) h ⟨t, rfl⟩ (fun _ => .int i) hg hd
theorem qe_gStr {z : Str} (h : GStr X.mg x z) (hg : Gl X x := by rfl) (hd : (x == ("__debug__" : Str)) = false := by decide) : QE X B W (.Name x pos) (eC (.str z)) := by
  obtain ⟨t, h⟩ := h
  exact qe_glob (v := .str z) h ⟨t, rfl⟩ (fun _ => .str z) hg hd
theorem reps_strs {K : PySem.W.Frag} {mg : Str → Option Value} {F : Hp} : ∀ (zs : List Str), Reps K mg F (zs.map V.str) (zs.map D.str)
  | [] => .nil
  | z :: zs => .cons (.str z) (reps_strs zs)
theorem qe_gTupS {zs : List Str} (h : GTupS X.K X.mg x zs) (hg : Gl X x := by rfl) (hd : (x == ("__debug__" : Str)) = false := by decide) : QE X B W (.Name x pos) (eC (.tup (zs.map D.str))) := by
  obtain ⟨a, h, hs⟩ := h
  exact qe_glob (v := .ref a) h rfl (fun F => .tup (hs.1 F) (reps_strs zs) fun _ => .inr hs.2) hg hd
theorem qe_cP (h : CallPOk X.prog X.w X.K X.mg X.base x j n dds f) (hr : Room k X.A) (hj : j ≤ k) (tk : Takes X W) (ha : QA X B W (e :: es) fs) (hg : Gl X x := by rfl) (hdb : (x == ("__debug__" : Str)) = false := by decide) (he : starEach (e :: es) X.env = (false, eval e X.env) :: starEach es X.env := by rfl) (hpl : (backTo pos (starEach es X.env)).any (·.1) = false := by rfl) :
    QE X B W (.Call (.Name x p) (e :: es) [] pos) (eArgs (gCallP n f dds) fs) := by
  obtain ⟨fa, fd, ps, dvs, dsv, F, hm, hk, hb, hd, rd⟩ := h
  exact qe_callP F (hr.mono hj) hm hk hb hd rd tk ha hg hdb he hpl
theorem qe_cO (h : CallOOk X.prog X.w X.K X.mg X.base x j n dds g) (hr : Room k X.A) (hj : j ≤ k) (tk : Takes X W) (ha : QA X B W (e :: es) fs) (hg : Gl X x := by rfl) (hdb : (x == ("__debug__" : Str)) = false := by decide) (he : starEach (e :: es) X.env = (false, eval e X.env) :: starEach es X.env := by rfl) (hpl : (backTo pos (starEach es X.env)).any (·.1) = false := by rfl) :
    QE X B W (.Call (.Name x p) (e :: es) [] pos) (eArgs (gCallO n g dds) fs) := by
  obtain ⟨fa, fd, ps, dvs, dsv, F, hm, hk, hb, hd, rd⟩ := h
  exact qe_callO F (hr.mono hj) hm hk hb hd rd tk ha hg hdb he hpl
theorem qe_mO (h : MethOOk X.prog X.w X.K X.mg X.base c m j n dds g) (hr : Room k X.A) (hj : j ≤ k) (tk : Takes X W) (ho : QE X B W o fo) (ha : QA X B W (e :: es) fs) (hst : starEach (e :: es) X.env = (false, eval e X.env) :: starEach es X.env := by rfl) (hpl : (backTo pos (starEach es X.env)).any (·.1) = false := by rfl)
    (ht : eval (.Call (.Attribute o m apos) (e :: es) [] pos) X.env = (do
      let ov ← eval o X.env
      standAt apos.atName
      let (f, first) ← holding [ov] (getMethod ov m pl)
      callWith pos f first (backTo pos (starEach (e :: es) X.env)) (backToKw pos (keywordEach [] X.env))) := by rfl) :
    QE X B W (.Call (.Attribute o m apos) (e :: es) [] pos) (eMeth [c] m (gCallO n g dds) fo fs) := by
  obtain ⟨C, fa, fd, ps, dvs, dsv, hc, cl, hm, F, hb, hd, rd⟩ := h
  exact qe_methO (pl := pl) hc cl hm F (hr.mono hj) hb hd rd tk ho ha hst hpl ht
theorem qe_mO0 (h : MethOOk X.prog X.w X.K X.mg X.base c m j n dds g) (hr : Room k X.A) (hj : j ≤ k) (tk : Takes X W) (ho : QE X B W o fo)
    (ht : eval (.Call (.Attribute o m apos) [] [] pos) X.env = (do
      let ov ← eval o X.env
      standAt apos.atName
      let (f, first) ← holding [ov] (getMethod ov m pl)
      callWith pos f first (backTo pos (starEach [] X.env)) (backToKw pos (keywordEach [] X.env))) := by rfl) :
    QE X B W (.Call (.Attribute o m apos) [] [] pos) (eMeth [c] m (gCallO n g dds) fo aNil) := by
  obtain ⟨C, fa, fd, ps, dvs, dsv, hc, cl, hm, F, hb, hd, rd⟩ := h
  exact qe_methO0 (pl := pl) hc cl hm F (hr.mono hj) hb hd rd tk ho ht
theorem qe_kM (h : MakeMOk X.prog X.w X.K X.mg X.base x j n dds f) (hr : Room k X.A) (hj : j + 1 ≤ k) (tk : Takes X W) (ha : QA X B W (e :: es) fs) (hg : Gl X x := by rfl) (hdb : (x == ("__debug__" : Str)) = false := by decide) (he : starEach (e :: es) X.env = (false, eval e X.env) :: starEach es X.env := by rfl) (hpl : (backTo pos (starEach es X.env)).any (·.1) = false := by rfl) :
    QE X B W (.Call (.Name x p) (e :: es) [] pos) (eArgs (gMakeM n f dds) fs) := by
  obtain ⟨C, fa, fd, ps, dvs, dsv, hm, mk, F, hb, hd, rd⟩ := h
  exact qe_makeM mk F (hr.mono hj) hm hb hd rd tk ha hg hdb he hpl
theorem qe_kO (h : MakeOOk X.prog X.w X.K X.mg X.base x j n dds g) (hr : Room k X.A) (hj : j + 1 ≤ k) (tk : Takes X W) (ha : QA X B W (e :: es) fs) (hg : Gl X x := by rfl) (hdb : (x == ("__debug__" : Str)) = false := by decide) (he : starEach (e :: es) X.env = (false, eval e X.env) :: starEach es X.env := by rfl) (hpl : (backTo pos (starEach es X.env)).any (·.1) = false := by rfl) :
    QE X B W (.Call (.Name x p) (e :: es) [] pos) (eArgs (gMakeO x n g dds) fs) := by
  obtain ⟨C, fa, fd, ps, dvs, dsv, hm, mk, F, hb, hd, rd⟩ := h
  exact qe_makeO mk F (hr.mono hj) hm hb hd rd tk ha hg hdb he hpl
theorem qs_rX (h : RaiseXOk X.prog X.w X.K X.mg X.base x fn j) (hc : X.calm = true) (hr : Room k X.A) (hj : j + 1 ≤ k) (tk : Takes X W) (ha : QA X B W (e :: es) fs) (hg : Gl X x := by rfl) (hdb : (x == ("__debug__" : Str)) = false := by decide) (he : starEach (e :: es) X.env = (false, eval e X.env) :: starEach es X.env := by rfl) (hpl : (backTo pos (starEach es X.env)).any (·.1) = false := by rfl) :
    QS X B W (.Raise (some (.Call (.Name x p) (e :: es) [] pos)) none pos2) (sRaise x fn fs) := by
  obtain ⟨C, fI, fd, ps, T, iC, tI, F, hb, hm⟩ := h
  exact qs_raiseX hc tk T iC tI F (hr.mono hj) hb hm ha hg hdb he hpl
end
section
variable {P : Program} {w : World} {K : PySem.W.Frag} {mg : Str → Option Value} {base : Heap} {x qual : Str} {stm : Stmt} {f C : Addr} {fd : FuncData} {N ps fn : List Str} {k : Nat} {dvs : List V} {kws : List (Str × V)}
theorem fn_X (Fn : FunD K x qual (defArgs stm) (defBody stm) (defScope stm) dvs kws f fd) (Sc : FnScope N ps (defScope stm)) (hps : ps.length = fn.length + 1) (t : TS)
    (hb : ∀ (cdv : Value) (A : Around) (outer : List Env) (s : Shared) (H : Hp) (E : XK), Room k (A.deeper (PyProof.Rows.envOfC qual (defScope stm) s.heap.objs.size f cdv)) → PSs (cxOf (L2N.CX P w) P w K mg base N qual (defScope stm) f cdv A outer s H E) (defBody stm) t)
    (hr : ∀ (a : Addr) (ws : List V) (H : Hp) (Nd : Ends), ws.length = fn.length → H a = some (exo a C none) → (∀ s d H2, H d = none → d ≠ a → H2 a = some (exo a C (some d)) → H2 d = some (exd d (backF fn ws)) → (∀ b, b ≠ a → b ≠ d → H2 b = H b) → Nd.nx s H2) → t Nd (L2.start N (.ref a :: ws)) H) :
    FnOk P w K mg base (L2N.CX P w) (k + 1) f fd ps (spX C fn.length fun ws => backF fn ws) := by
  refine Fn.ok Sc (fun vs H Q E h => ?_) (fun cdv A outer s H vs Q E hr' h => ?_)
  · obtain ⟨a, ws, rfl, l, _⟩ := h
    rw [List.length_cons, l, hps]
  · obtain ⟨a, ws, rfl, l, ha, k'⟩ := h
    exact ⟨t, hb cdv A outer s H E hr', hr a ws H _ l ha fun s d H2 a1 a2 a3 a4 a5 => k' d H2 a1 a2 a3 a4 a5⟩
end
end Cl
namespace Cl
open PySem L2
@[simp] def eAnd (a b : ME) : ME := fun sl => (a sl).bind fun d => match d with
  | .val (.bl k) => if k = true then b sl else M.pure (.val (.bl false))
  | _ => M.stuck
@[simp] def eOr (a b : ME) : ME := fun sl => (a sl).bind fun d => match d with
  | .val (.bl k) => if k = true then M.pure (.val (.bl true)) else b sl
  | _ => M.stuck
@[simp] def eNot (a : ME) : ME := fun sl => (a sl).bind fun d => match d with
  | .val (.bl k) => M.pure (.val (.bl (!k)))
  | _ => M.stuck
@[simp] def eIf (c : MT) (a b : ME) : ME := fun sl => (c sl).bind fun k => if k = true then a sl else b sl
@[simp] def eChain (g g' : S → S → M S) (a b c : ME) : ME := fun sl => (a sl).bind fun x => (b sl).bind fun y => (g x y).bind fun d => match d with
  | .val (.bl k) => if k = true then (c sl).bind fun z => g' y z else M.pure (.val (.bl false))
  | _ => M.stuck
section
variable {X : Cx} {B : Hp} {W : WX} {a b c : Expr} {rest : List Expr} {fa fb fc : ME} {ft : MT} {pos : Pos}
theorem qe_ifExp {t : Expr} (hc : QT X B W t ft) (ha : QE X B W a fa) (hb : QE X B W b fb) : QE X B W (.IfExp t a b pos) (eIf ft fa fb) := by
  refine PEimp (pe_ifExp hc ha hb) fun s H Q q => ?_
  obtain ⟨F, rho, sl, st, cc, S', h⟩ := q
  refine ⟨F, rho, sl, st, cc, S', h.bind.mono (Same.refl _) (Pre.refl _) (fun F1 r1 H1 k e1 p1 h1 => ?_) fun _ _ _ z => z⟩
  obtain ⟨st1, c1, _, _, h1⟩ := h1
  cases k with
  | true => rw [if_pos rfl] at h1 ⊢; exact ⟨F1, r1, sl, st1, c1, S'.mono e1 p1, h1⟩
  | false => rw [if_neg Bool.false_ne_true] at h1 ⊢; exact ⟨F1, r1, sl, st1, c1, S'.mono e1 p1, h1⟩
theorem chain_of {r r' : R2} {g g' : S → S → M S} {s : St} {H : Hp} {Q : VK} (hg : OpS X.K X.mg r g) (hg' : OpS X.K X.mg r' g') (h : tE X.K X.mg B W (eChain g g' fa fb fc) s H Q) : tChain r r' (tE X.K X.mg B W fa) (tE X.K X.mg B W fb) (tE X.K X.mg B W fc) s H Q := by
  obtain ⟨F, rho, sl, st, cc, S', h⟩ := h
  refine ⟨F, rho, sl, st, cc, S', h.bind.mono (Same.refl _) (Pre.refl _) (fun F1 r1 H1 dx e1 p1 h1 x rx => ?_) fun _ _ _ z => z⟩
  obtain ⟨st1, c1, _, _, h1⟩ := h1
  refine ⟨F1, r1, sl, st1, c1, S'.mono e1 p1, h1.bind.mono (Same.refl _) (Pre.refl _) (fun F2 r2 H2 dy e2 p2 h2 y ry => ?_) fun _ _ _ z => z⟩
  obtain ⟨st2, c2, _, _, h2⟩ := h2
  refine hg _ B F2 r2 st2 H2 x y dx dy _ c2 (rx.mono e2 p2) ry (h2.bind.mono (Same.refl _) (Pre.refl _) (fun F3 r3 H3 d e3 p3 h3 z rz => ?_) fun _ _ _ z => z)
  obtain ⟨st3, c3, _, _, h3⟩ := h3
  cases rz with
  | obj _ => exact h3.elim
  | val rz =>
    cases rz with
    | bl k =>
      refine ⟨k, rfl, ?_⟩
      dsimp only at h3
      cases k with
      | true =>
        rw [if_pos rfl] at h3 ⊢
        refine ⟨F3, r3, sl, st3, c3, S'.mono ((e1.trans e2).trans e3) ((p1.trans p2).trans p3), h3.bind.mono (Same.refl _) (Pre.refl _) (fun F4 r4 H4 dz e4 p4 h4 w' rw' => ?_) fun _ _ _ z => z⟩
        obtain ⟨st4, c4, _, _, h4⟩ := h4
        exact hg' _ B F4 r4 st4 H4 y w' dy dz Q c4 (ry.mono (e3.trans e4) (p3.trans p4)) rw' h4
      | false => rw [if_neg Bool.false_ne_true] at h3 ⊢; exact h3.done c3 _ (.val (.bl _))
    | _ => exact h3.elim
theorem qe_chain {op op' : CmpOp} {r r' : R2} {g g' : S → S → M S} (ho : OpR X (compareOp op) r) (hg : OpS X.K X.mg r g) (ho' : OpR X (compareOp op') r') (hg' : OpS X.K X.mg r' g') (ha : QE X B W a fa) (hb : QE X B W b fb) (hc : QE X B W c fc)
    (hm : lastMarks [op, op'] [b, c] = false := by with_unfolding_all rfl) : QE X B W (.Compare a [op, op'] [b, c] pos) (eChain g g' fa fb fc) :=
  PEimp (pe_chain ho ho' ha hb hc hm) fun s H Q q => chain_of hg hg' q
theorem qt_chain {op op' : CmpOp} {r r' : R2} {g g' : S → S → M S} (ho : OpR X (compareOp op) r) (hg : OpS X.K X.mg r g) (ho' : OpR X (compareOp op') r') (hg' : OpS X.K X.mg r' g') (ha : QE X B W a fa) (hb : QE X B W b fb) (hc : QE X B W c fc)
    (hm : lastMarks [op, op'] [b, c] = false := by with_unfolding_all rfl) : QT X B W (.Compare a [op, op'] [b, c] pos) (tOfE (eChain g g' fa fb fc)) :=
  PTimp (pt_chain ho ho' ha hb hc hm) fun s H Q q => chain_of hg hg' (test_of q)
end
end Cl
namespace Cl
open PySem L2
section
variable {K : PySem.W.Frag} {mg : Str → Option Value}
theorem new_strs {W : Value → Option Addr → Hp → Prop} {B F : Hp} {rho : List Addr} {st : List O} {H : Hp} {Q : VK} {ys : List Str} (c : Core K mg B F rho st H)
    (h : Post K mg B (fun F' rho' H' d => ∀ v, RepS K mg F' rho' v d → Q v H') W F rho (ok1 (.lst (ys.map D.str)) st)) : rNewStrs ys H Q := fun p hp =>
  h (upd F p (.lst (ys.map V.str))) rho _ (same_upd (c.same.free hp)) (Pre.refl _) (c.alloc hp) _ (.val (.lst upd_same ((reps_strs ys).mono (same_upd (c.same.free hp)))))
/-- s.split(sep) -/
def gSplit : S → List S → M S
  | .val (.str a), [.val (.str b)] => fun st => if (b.length == 0) = false ∧ a.length + 2 ≤ sizeLine then ok1 (.lst ((Txt.split a b).map D.str)) st else none
  | _, _ => M.stuck
theorem ms_split : MtS K mg (fun x xs H Q => ∃ a b, x = .str a ∧ xs = [.str b] ∧ (b.length == 0) = false ∧ a.length + 2 ≤ sizeLine ∧ rNewStrs (Txt.split a b) H Q) gSplit := by
  intro W B F rho st H x vs dx ds Q c rx rs h
  cases rx with
  | obj _ => exact h.elim
  | val rx =>
    cases rx with
    | str a =>
      cases rs with
      | nil => exact h.elim
      | cons r t =>
        cases r with
        | obj _ => exact h.elim
        | val r =>
          cases r with
          | str b =>
            cases t with
            | cons _ _ => exact h.elim
            | nil =>
              simp only [gSplit] at h
              split at h
              · rename_i hz; exact ⟨a, b, rfl, rfl, hz.1, hz.2, new_strs c h⟩
              · exact h.elim
          | _ => exact h.elim
    | _ => exact h.elim
/-- sep.join(texts) -/
def strsD : List D → Option (List Str)
  | [] => some []
  | .str i :: r => (strsD r).map (i :: ·)
  | _ => none
theorem strs_ok {F : Hp} : ∀ {vs : List V} {ds : List D} {ns : List Str}, Reps K mg F vs ds → strsD ds = some ns → vs = ns.map V.str
  | _, _, _, .nil, h => by cases h; rfl
  | _, _, _, .cons r t, h => by
    cases r with
    | str i =>
      simp only [strsD, Option.map_eq_some_iff] at h
      obtain ⟨l, h1, rfl⟩ := h
      rw [strs_ok t h1]; rfl
    | _ => cases h
def gJoin : S → List S → M S
  | .val (.str a), [y] => fun st => match ((seqOf y st).bind datas).bind strsD with
    | some ys => if (ys.map (·.length)).sum + ys.length * a.length ≤ 16777216 then ok1 (.str (Txt.join a ys)) st else none
    | none => none
  | _, _ => M.stuck
theorem ms_join : MtS K mg (fun x xs H Q => ∃ a p, ∃ ys : List Str, x = .str a ∧ xs = [.ref p] ∧ (SqL K H p (ys.map V.str) ∨ SqT K H p (ys.map V.str)) ∧ (ys.map (·.length)).sum + ys.length * a.length ≤ 16777216 ∧ Q (.str (Txt.join a ys)) H) gJoin := by
  intro W B F rho st H x vs dx ds Q c rx rs h
  cases rx with
  | obj _ => exact h.elim
  | val rx =>
    cases rx with
    | str a =>
      cases rs with
      | nil => exact h.elim
      | @cons _ d0 _ _ r t =>
        cases t with
        | cons _ _ => exact h.elim
        | nil =>
          simp only [gJoin] at h
          match e : ((seqOf d0 st).bind datas).bind strsD with
          | none => rw [e] at h; exact h.elim
          | some ys =>
            rw [e] at h
            dsimp only at h
            split at h
            · rename_i hz
              obtain ⟨dd, h1, h2⟩ := Option.bind_eq_some_iff.mp e
              obtain ⟨ss, h3, h4⟩ := Option.bind_eq_some_iff.mp h1
              obtain ⟨p, vs, rfl, hs, rs⟩ := seq_at c r h3
              rw [strs_ok (rs.datas h4) h2] at hs
              exact ⟨a, p, ys, rfl, rfl, hs, hz, h.done c _ (.val (.str _))⟩
            · exact h.elim
    | _ => exact h.elim
theorem RepSs.dropLast {F : Hp} {rho : List Addr} {vs : List V} {ds : List S} (rs : RepSs K mg F rho vs ds) : RepSs K mg F rho vs.dropLast ds.dropLast := by
  rw [List.dropLast_eq_take, List.dropLast_eq_take, rs.length]
  exact rs.take _
def gPopAt : S → List S → M S
  | .obj k, [.val (.int i)] => fun st => match st[k]? with
    | some (.lst ss) => if -(2 ^ 63) ≤ i ∧ i < 2 ^ 63 then (match seqIndex? i ss.length with
      | some j => match ss[j]? with
        | some s => some (.ok (rsvS s st), st.set k (.lst (ss.eraseIdx j)))
        | none => none
      | none => none) else none
    | _ => none
  | _, _ => M.stuck
theorem ms_popAt : MtS K mg rPopAt gPopAt := by
  intro W B F rho st H x vs dx ds Q c rx rs h
  cases rx with
  | val _ => exact h.elim
  | @obj k a q =>
    cases rs with
    | nil => exact h.elim
    | cons r t =>
      cases r with
      | obj _ => exact h.elim
      | val r =>
        cases r with
        | int i =>
          cases t with
          | cons _ _ => exact h.elim
          | nil =>
            simp only [gPopAt] at h
            match e : st[k]? with
            | some (.lst ss) =>
              rw [e] at h
              dsimp only at h
              split at h
              · rename_i hb
                match e3 : seqIndex? i ss.length with
                | none => rw [e3] at h; exact h.elim
                | some j =>
                  rw [e3] at h
                  dsimp only at h
                  match e2 : ss[j]? with
                  | none => rw [e2] at h; exact h.elim
                  | some s =>
                    rw [e2] at h
                    obtain ⟨hF, vs, hH, rs⟩ := c.own k a _ q e
                    obtain ⟨v, h1, h2⟩ := rs.get e2
                    exact ⟨a, vs, i, j, v, rfl, rfl, hH, hb.1, hb.2, by rw [rs.length]; exact e3, h1, h F rho _ (Same.refl _) (Pre.refl _) (c.write q hF ⟨hF, _, upd_same, rs.eraseIdx j⟩) _ (rsv_ok c h2)⟩
              · exact h.elim
            | some (.frz _) => rw [e] at h; exact h.elim
            | some (.ins _ _) => rw [e] at h; exact h.elim
            | some (.dct _) => rw [e] at h; exact h.elim
            | some (.dcn _) => rw [e] at h; exact h.elim
            | some (.tup _) => rw [e] at h; exact h.elim
            | none => rw [e] at h; exact h.elim
        | _ => exact h.elim
/-- xs.index(y) -/
def firstP (p : PyData) : List PyData → Nat → Option Nat
  | [], _ => none
  | z :: r, n => if PyData.eqv z p = true then some n else firstP p r (n + 1)
theorem firstP_ok {p : PyData} : ∀ {l : List PyData} {n j : Nat}, firstP p l n = some j → ∃ i z, j = n + i ∧ l[i]? = some z ∧ PyData.eqv z p = true ∧ ∀ (m : Nat) (z' : PyData), m < i → l[m]? = some z' → PyData.eqv z' p = false
  | [], n, j, h => by cases h
  | z :: r, n, j, h => by
    unfold firstP at h
    split at h
    · rename_i hz; cases h; exact ⟨0, z, rfl, rfl, hz, fun m z' hm => absurd hm (Nat.not_lt_zero _)⟩
    · rename_i hz
      obtain ⟨i, y, e1, e2, e3, e4⟩ := firstP_ok h
      refine ⟨i + 1, y, by omega, by simpa using e2, e3, fun m z' hm hl => ?_⟩
      cases m with
      | zero => simp at hl; subst hl; exact Bool.not_eq_true _ ▸ hz
      | succ m => exact e4 m z' (by omega) (by simpa using hl)
def gIndex : S → List S → M S
  | x, [y] => fun st => match (lstOf x st).bind datas, toPS y st with
    | some ds, some p => match toPs ds with
      | some ps => if SeqAt.shaped (.list ps) = true ∧ SeqAt.shaped p = true then (match firstP p ps 0 with
        | some j => ok1 (.int (j : Nat)) st
        | none => none) else none
      | none => none
    | _, _ => none
  | _, _ => M.stuck
theorem ms_index : MtS K mg (rIndexD K) gIndex := by
  intro W B F rho st H x vs dx ds Q c rx rs h
  cases rs with
  | nil => exact h.elim
  | @cons _ d0 _ _ r t =>
    cases t with
    | cons _ _ => exact h.elim
    | nil =>
      simp only [gIndex] at h
      match e : (lstOf dx st).bind datas, e2 : toPS d0 st with
      | none, _ => rw [e] at h; exact h.elim
      | some l, none => rw [e, e2] at h; exact h.elim
      | some l, some p =>
        rw [e, e2] at h
        dsimp only at h
        match e3 : toPs l with
        | none => rw [e3] at h; exact h.elim
        | some ps =>
          rw [e3] at h
          dsimp only at h
          split at h
          · rename_i hs
            match e4 : firstP p ps 0 with
            | none => rw [e4] at h; exact h.elim
            | some j =>
              rw [e4] at h
              obtain ⟨ss, h1, h2⟩ := Option.bind_eq_some_iff.mp e
              obtain ⟨a, us, rfl, hH, rr⟩ := lst_at c rx h1
              obtain ⟨i, z, e5, e6, e7, e8⟩ := firstP_ok e4
              have ei : i = j := by omega
              subst ei
              exact ⟨a, _, p, ps, _, z, rfl, rfl, .lst (SqL.of hH) (toPs_ok c.same (rr.datas h2) e3), toPS_ok c r e2, hs.1, hs.2, e6, e7, e8, h.done c _ (.val (.int _))⟩
          · exact h.elim
end
end Cl
namespace L2
open PySem PySem.Spec PyProof.Rows
abbrev TMC := V → TS
structure PMC (X : Cx) (cs : List MatchCase) (t : TMC) : Prop where
  run : ∀ (first : Bool) (pins : List (Addr × Obj)) (s : Shared) (σ : St) (H : Hp) (x : V) (v : Value) (D : Ends), Inv X pins σ H s → RelV x v → t x D σ H → wpAny (model X.prog X.w) X.A (matchCases cs X.env v first) (SP X pins D) X.xe s
section
variable {X : Cx} {e : Expr} {te : TE} {r : R2} {body : List Stmt} {tb : TS} {rest : List MatchCase} {tr : TMC} {p p2 pos : Pos}
def tMVal (r : R2) (te : TE) (tb : TS) (tr : TMC) : TMC := fun x D σ H => te σ H fun y H1 => r x y H1 fun z H2 => ∃ k, z = .bl k ∧ if k = true then tb D σ H2 else tr x D σ H2
theorem pmc_val (he : PE X e te) (ho : OpR X (compareOp .Eq) r) (hb : PSs X body tb) (hr : PMC X rest tr) : PMC X (⟨.MatchValue e p, none, body⟩ :: rest) (tMVal r te tb tr) := by
  refine ⟨fun first pins s σ H x v D I rx h => ?_⟩
  refine wpAny_matchCases_cons (wpAny_matchPattern_Value (thn (he.run pins s σ H _ I h) fun u s1 ⟨y, H1, I1, ry, q⟩ => ?_))
  refine thn (ho pins s1 σ H1 x y v u _ I1 rx ry q) fun c s2 ⟨z, H2, I2, rz, k, ez, q2⟩ => ?_
  subst ez
  cases rz
  refine wpAny_truthy_bool ?_
  cases k with
  | true => exact wpAny_assignInOrder_none (hb.run pins s2 σ H2 D I2 q2)
  | false => exact hr.run false pins s2 σ H2 x v D I2 rx q2
theorem pmc_any (hb : PSs X body tb) : PMC X (⟨.MatchAs none none p, none, body⟩ :: rest) (fun _ => tb) := by
  refine ⟨fun first pins s σ H x v D I rx h => ?_⟩
  exact wpAny_matchCases_cons (wpAny_matchPattern_Capture (wpAny_assignInOrder_none (hb.run pins s σ H D I h)))
theorem ps_match {cs : List MatchCase} {t : TMC} (he : PE X e te) (hc : PMC X cs t) : PS X (.Match e cs pos) (fun D σ H => te σ H fun x H1 => t x D σ H1) := by
  refine ⟨fun pins s σ H D I h => ?_⟩
  exact wpAny_Match (thn (he.run pins s σ H _ I h) fun v s1 ⟨x, H1, I1, rx, q⟩ => hc.run true pins s1 σ H1 x v D I1 rx q)
end
end L2
namespace Cl
open PySem L2
section
variable {X : Cx} {B : Hp} {W : WX}
/-- frozen -/
@[simp] def eFrz (a : ME) : ME := fun sl => (a sl).bind fun x => (toD x).bind fun d => M.pure (.val d)
theorem qe_frz {e : Expr} {f : ME} (h : QE X B W e f) : QE X B W e (eFrz f) := PEimp h fun s H Q q => one_of q fun F rho sl st H x dx c S' rx h => by
  obtain ⟨F1, st1, d, e1, c1, r1, ⟨st2, c2, _, _, h2⟩, _⟩ := toD_ok c rx h.bind
  exact h2.done c2 _ (.val r1)
@[simp] def sAsg (e : ME) (g : MG) : MS := sBind e fun x sl st => (g x sl st).map fun r => (.nx, r.1, r.2)
theorem qs_asg {tg e : Expr} {fe : ME} {g : MG} {pos : Pos} (he : QE X B W e fe) (hg : QG X B tg g) (hs : swapsWithSole [tg] e pos.line X.env = pure false := by rfl) (hw : swappedStores [tg] e X.env = pure none := by rfl)
    (h1 : (assignEach [tg] X.env).map (·.2) = [assign tg X.env] := by rfl) : QS X B W (.Assign [tg] e pos) (sAsg fe g) := by
  refine PSimp (ps_asg he hg hs hw h1) fun N s H h => stm_of h fun F rho sl st H v d c S' r p => ?_
  refine ⟨F, rho, sl, st, d, c, S', r, ?_⟩
  match q : g d sl st with
  | none => rw [q] at p; exact p.elim
  | some (sl1, st1) => rw [q] at p; exact fun F1 r1 H1 s1 e1 p1 c1 S1 => p F1 r1 H1 s1 e1 p1 c1 S1
/-- a, b = x, y, plain names -/
@[simp] def sPar (i j : Nat) (a : MA) : MS := sBind a fun ss sl st => match ss with
  | [x, y] => some (.nx, (sl.set i (some x)).set j (some y), st)
  | _ => none
theorem qs_par {i j : Nat} {x y : Str} {a b : Expr} {fs : MA} {px py pt pos : Pos} {kt k2 pt2} (hc : X.calm = true) (hN : X.N.Nodup) (hij : i ≠ j) (ha : QA X B W [a, b] fs)
    (hw : swappedStores [.Tuple [.Name x px, .Name y py] kt pt] (.Tuple [a, b] k2 pt2) X.env = pure (some [x, y]))
    (hi : X.N[i]? = some x := by rfl) (hj : X.N[j]? = some y := by rfl) (hx : X.env.scope.names.lookup x = some .local := by rfl) (hy : X.env.scope.names.lookup y = some .local := by rfl)
    (hs : swapsWithSole [.Tuple [.Name x px, .Name y py] kt pt] (.Tuple [a, b] k2 pt2) pos.line X.env = pure false := by rfl) :
    QS X B W (.Assign [.Tuple [.Name x px, .Name y py] kt pt] (.Tuple [a, b] k2 pt2) pos) (sPar i j fs) := by
  refine PSimp (ps_par hc hN hi hj hij hx hy ha hw hs) fun N s H h => ?_
  obtain ⟨F, rho, sl, st, c, S', h⟩ := h
  refine ⟨F, rho, sl, st, c, S', (PostS.bind S' h).mono (Same.refl _) (Pre.refl _) (fun F1 r1 H1 ss e1 p1 h1 vs rs => ?_) fun _ _ _ z => z⟩
  obtain ⟨st1, c1, _, _, h1⟩ := h1
  cases rs with
  | nil => exact h1.elim
  | cons ra t =>
    cases t with
    | nil => exact h1.elim
    | cons rb t =>
      cases t with
      | cons _ _ => exact h1.elim
      | nil => exact ⟨_, _, rfl, h1.nx c1 (((S'.mono e1 p1).set ra i).set rb j)⟩
abbrev MC := S → MS
def tMC (K : PySem.W.Frag) (mg : Str → Option Value) (B : Hp) (W : WX) (f : MC) : TMC := fun x N s H => ∃ F rho sl st d, Core K mg B F rho st H ∧ Slots K mg F rho s sl ∧ RepS K mg F rho x d ∧ PostS K mg B W N F rho (f d sl st)
abbrev QMC (X : Cx) (B : Hp) (W : WX) (cs : List MatchCase) (f : MC) : Prop := PMC X cs (tMC X.K X.mg B W f)
theorem PMCimp {cs : List MatchCase} {t t' : TMC} (h : PMC X cs t) (i : ∀ x N s H, t' x N s H → t x N s H) : PMC X cs t' := ⟨fun first pins s σ H x v D I rx q => h.run first pins s σ H x v D I rx (i _ _ _ _ q)⟩
@[simp] def mcNil : MC := fun _ => sNext
@[simp] def mcVal (g : S → S → M S) (e : ME) (b : MS) (r : MC) : MC := fun x => sBind (fun sl => (e sl).bind fun y => g x y) fun d => match d with
  | .val (.bl k) => if k = true then b else r x
  | _ => sStuck
@[simp] def mcAny (b : MS) : MC := fun _ => b
@[simp] def sMatch (e : ME) (f : MC) : MS := sBind e f
variable {e : Expr} {fe : ME} {r : R2} {g : S → S → M S} {body : List Stmt} {fb : MS} {rest : List MatchCase} {fr : MC} {p pos : Pos}
theorem qmc_any (hb : QSs X B W body fb) : QMC X B W (⟨.MatchAs none none p, none, body⟩ :: rest) (mcAny fb) := PMCimp (pmc_any hb) fun x N s H ⟨F, rho, sl, st, d, c, S', r, h⟩ => ⟨F, rho, sl, st, c, S', h⟩
theorem qmc_val (ho : OpR X (compareOp .Eq) r) (hg : OpS X.K X.mg r g) (he : QE X B W e fe) (hb : QSs X B W body fb) (hr : QMC X B W rest fr) : QMC X B W (⟨.MatchValue e p, none, body⟩ :: rest) (mcVal g fe fb fr) := by
  refine PMCimp (pmc_val he ho hb hr) fun x N s H ⟨F, rho, sl, st, d, c, S', rx, h⟩ => ?_
  refine ⟨F, rho, sl, st, c, S', (PostS.bind S' h).bind.mono (Same.refl _) (Pre.refl _) (fun F1 r1 H1 dy e1 p1 h1 y ry => ?_) fun _ _ _ z => z⟩
  obtain ⟨st1, c1, _, _, h1⟩ := h1
  refine hg _ B F1 r1 st1 H1 x y d dy _ c1 (rx.mono e1 p1) ry (h1.mono (Same.refl _) (Pre.refl _) (fun F2 r2 H2 dz e2 p2 h2 z rz => ?_) fun _ _ _ z => z)
  obtain ⟨st2, c2, _, _, h2⟩ := h2
  cases rz with
  | obj _ => exact h2.elim
  | val rz =>
    cases rz with
    | bl k =>
      refine ⟨k, rfl, ?_⟩
      dsimp only at h2
      cases k with
      | true => rw [if_pos rfl] at h2 ⊢; exact ⟨F2, r2, sl, st2, c2, S'.mono (e1.trans e2) (p1.trans p2), h2⟩
      | false => rw [if_neg Bool.false_ne_true] at h2 ⊢; exact ⟨F2, r2, sl, st2, d, c2, S'.mono (e1.trans e2) (p1.trans p2), rx.mono (e1.trans e2) (p1.trans p2), h2⟩
    | _ => exact h2.elim
theorem qs_match {cs : List MatchCase} {f : MC} (he : QE X B W e fe) (hc : QMC X B W cs f) : QS X B W (.Match e cs pos) (sMatch fe f) :=
  PSimp (ps_match he hc) fun N s H h => stm_of h fun F rho sl st H v d c S' r p => ⟨F, rho, sl, st, d, c, S', r, p⟩
end
@[simp] def belowS (n : Nat) : S → Bool
  | .val _ => true
  | .obj k => decide (k < n)
@[simp] def belowO (n : Nat) : O → Bool
  | .lst l => l.all (belowS n)
  | .ins _ fs => fs.all fun p => belowS n p.2
  | .dct l => l.all fun p => belowS n p.2
  | .dcn l => l.all fun p => belowS n p.2
  | .tup l => l.all (belowS n)
  | .frz _ => true
@[simp] def exitC (n : Nat) (r : Option (Fl × Sl × List O)) : Option (Except XD S × List O) := match r with
  | some (.rt (.val d), _, st) => if n ≤ st.length ∧ (st.take n).all (belowO n) = true then some (.ok (.val d), st.take n) else none
  | some (.nx, _, st) => if n ≤ st.length ∧ (st.take n).all (belowO n) = true then some (.ok (.val .non), st.take n) else none
  | some (.xc x, _, st) => if n ≤ st.length ∧ (st.take n).all (belowO n) = true then some (.error x, st.take n) else none
  | _ => none
@[simp] def asC (n : Nat) (b : MS) : OF := fun ss st => exitC st.length (b (mkSl n ss) st)
section
variable {K : PySem.W.Frag} {mg : Str → Option Value} {B F : Hp} {rho rho' : List Addr} {st : List O} {H : Hp}
theorem RepS.undr {n : Nat} (hn : ∀ (k : Nat) (a : Addr), k < n → rho'[k]? = some a → rho[k]? = some a) {v : V} {s : S} (r : RepS K mg F rho' v s) (h : belowS n s = true) : RepS K mg F rho v s := by
  cases r with
  | val r => exact .val r
  | obj q => exact .obj (hn _ _ (of_decide_eq_true h) q)
theorem RepSs.undr {n : Nat} (hn : ∀ (k : Nat) (a : Addr), k < n → rho'[k]? = some a → rho[k]? = some a) : ∀ {v : List V} {s : List S}, RepSs K mg F rho' v s → s.all (belowS n) = true → RepSs K mg F rho v s
  | _, _, .nil, _ => .nil
  | _, _, .cons r t, h => by
    simp only [List.all_cons, Bool.and_eq_true] at h
    exact .cons (r.undr hn h.1) (RepSs.undr hn t h.2)
theorem RepSF.undr {n : Nat} (hn : ∀ (k : Nat) (a : Addr), k < n → rho'[k]? = some a → rho[k]? = some a) : ∀ {v : List (Str × V)} {s : List (Str × S)}, RepSF K mg F rho' v s → (s.all fun p => belowS n p.2) = true → RepSF K mg F rho v s
  | _, _, .nil, _ => .nil
  | _, _, .cons r t, h => by
    simp only [List.all_cons, Bool.and_eq_true] at h
    exact .cons (r.undr hn h.1) (RepSF.undr hn t h.2)
theorem RepSK.undr {n : Nat} (hn : ∀ (k : Nat) (a : Addr), k < n → rho'[k]? = some a → rho[k]? = some a) : ∀ {v : List (Key × V)} {s : List (D × S)}, RepSK K mg F rho' v s → (s.all fun p => belowS n p.2) = true → RepSK K mg F rho v s
  | _, _, .nil, _ => .nil
  | _, _, .cons r t, h => by
    simp only [List.all_cons, Bool.and_eq_true] at h
    exact .cons (r.undr hn h.1) (RepSK.undr hn t h.2)
theorem RepDN.undr {n : Nat} (hn : ∀ (k : Nat) (a : Addr), k < n → rho'[k]? = some a → rho[k]? = some a) : ∀ {v : List (NestedKey × Addr × V)} {s : List (D × S)}, RepDN K mg F rho' v s → (s.all fun p => belowS n p.2) = true → RepDN K mg F rho v s
  | _, _, .nil, _ => .nil
  | _, _, .cons a b r t, h => by
    simp only [List.all_cons, Bool.and_eq_true] at h
    exact .cons a b (r.undr hn h.1) (RepDN.undr hn t h.2)
theorem Core.cut (c : Core K mg B F rho' st H) (p : Pre rho rho') (hl : rho.length ≤ st.length) (hb : (st.take rho.length).all (belowO rho.length) = true) : Core K mg B F rho (st.take rho.length) H := by
  have hn : ∀ (k : Nat) (a : Addr), k < rho.length → rho'[k]? = some a → rho[k]? = some a := fun k a hk e => by
    have := p k _ (List.getElem?_eq_getElem hk)
    rw [e] at this; rw [List.getElem?_eq_getElem hk, ← this]
  refine ⟨c.same, c.frame, c.apart, fun k a e => c.off k a (p k a e), ?_, by rw [List.length_take]; omega, fun k a o e1 e2 => ?_, fun k a e => c.liv k a (p k a e), c.tabs⟩
  · have : rho = rho'.take rho.length := by
      apply List.ext_getElem?
      intro i
      by_cases hi : i < rho.length
      · rw [List.getElem?_take_of_lt hi, p i _ (List.getElem?_eq_getElem hi), List.getElem?_eq_getElem hi]
      · rw [List.getElem?_eq_none (by omega), List.getElem?_eq_none (by rw [List.length_take]; omega)]
    rw [this]
    exact c.nd.sublist (List.take_sublist _ _)
  · have hk : k < rho.length := (List.getElem?_eq_some_iff.mp e1).1
    have e3 : st[k]? = some o := by rw [List.getElem?_take_of_lt hk] at e2; exact e2
    have bo : belowO rho.length o = true := List.all_eq_true.mp hb o (List.mem_of_getElem? e2)
    have ro := c.own k a o (p k a e1) e3
    cases o with
    | lst ds => obtain ⟨x, vs, y, z⟩ := ro; exact ⟨x, vs, y, z.undr hn bo⟩
    | ins n fs => obtain ⟨x, C, dx, fvs, m, y, z⟩ := ro; exact ⟨x, C, dx, fvs, m, y, z.undr hn bo⟩
    | dct l => obtain ⟨x, kvs, y, z⟩ := ro; exact ⟨x, kvs, y, z.undr hn bo⟩
    | dcn l => obtain ⟨x, kvs, y, z⟩ := ro; exact ⟨x, kvs, y, z.undr hn bo⟩
    | tup ds => obtain ⟨⟨vs, x, y⟩, z⟩ := ro; exact ⟨⟨vs, x, y.undr hn bo⟩, z⟩
    | frz d => exact ro
end
section
variable {P : Program} {w : World} {K : PySem.W.Frag} {mg : Str → Option Value} {base : Heap} {x qual : Str} {stm : Stmt} {f : Addr} {fd : FuncData} {N ps : List Str} {k : Nat} {b : MS} {dvs : List V} {kws : List (Str × V)}
theorem fn_C (Fn : FunD K x qual (defArgs stm) (defBody stm) (defScope stm) dvs kws f fd) (Sc : FnScope N ps (defScope stm)) (hb : Body P w K mg base N qual stm f k b) : FnOk P w K mg base (L2N.CX P w) (k + 1) f fd ps (spO K mg ps.length (asC N.length b)) := by
  refine Fn.ok Sc (fun vs H Q E h => ?_) (fun cdv A outer s H vs Q E hr h => ?_)
  · obtain ⟨B, F, rho, st, ss, _, r, l, _⟩ := h
    rw [r.length]; exact l
  · obtain ⟨B, F, rho, st, ss, c, r, l, h⟩ := h
    refine ⟨_, hb cdv A outer s H E B hr, F, rho, _, st, c, slots_start r, ?_⟩
    unfold asC exitC at h
    rw [← c.len] at h
    match q : b (mkSl N.length ss) st with
    | none => rw [q] at h; exact h
    | some (.nx, sl', st') =>
      rw [q] at h
      dsimp only at h
      split at h
      · rename_i hc
        exact fun F' rho' H' s' e1 p1 c1 S1 => h F' rho H' e1 (Pre.refl _) (c1.cut p1 hc.1 hc.2) .non (.val .non)
      · exact h.elim
    | some (.bk, sl', st') => rw [q] at h; exact h.elim
    | some (.ct, sl', st') => rw [q] at h; exact h.elim
    | some (.xc z, sl', st') =>
      rw [q] at h
      dsimp only at h
      split at h
      · rename_i hc
        exact fun F' rho' H' s' e1 p1 c1 S1 cls dd xr => h F' rho H' e1 (Pre.refl _) (c1.cut p1 hc.1 hc.2) cls dd xr
      · exact h.elim
    | some (.rt (.obj j), sl', st') => rw [q] at h; exact h.elim
    | some (.rt (.val d), sl', st') =>
      rw [q] at h
      dsimp only at h
      split at h
      · rename_i hc
        intro F' rho' H' s' e1 p1 c1 S1 v rv
        cases rv with
        | val rv => exact h F' rho H' e1 (Pre.refl _) (c1.cut p1 hc.1 hc.2) v (.val rv)
      · exact h.elim
end
end Cl
namespace Cl
open PySem L2 PySem.Spec PyProof.Rows
def lamArgs (p : Pos) : Arguments := { posonlyargs := [], args := [{ arg := "start", annotation := none, pos := p }], vararg := none, kwonlyargs := [], kw_defaults := [], kwarg := none, defaults := [] }
def lamBody (p1 p2 p3 p4 : Pos) : Expr := .Subscript (.Name "start" p1) (.Slice none (some (.Constant (.int 2) 0 p2)) none p3) p4
def lamScope : Scope := { kind := .function, names := [("start", .local)], isGenerator := false, isCoroutine := false, more := [] }
theorem key_two {prog : Program} {w : World} {A : Around} {s : Shared} {f c' a : Addr} {pm ctv : Value} {qual : Str} {clos : List (Str × Addr)} {p p1 p2 p3 p4 : Pos} {its : List Value} {i j : Int} {t u : Tok}
    (hf : s.heap.get? f = some (PySem.W.kla_obj "<lambda>" qual (lamArgs p) (lamBody p1 p2 p3 p4) lamScope clos pm c' ctv)) (hcd : s.heap.CodeRec (.ref c') qual) (hroom : A.depth < recursionLimit) (hnl : s.heap.NoLimit)
    (ht : IsTup s.heap a its.toArray) (h0 : its[0]? = some (.int i t)) (h1 : its[1]? = some (.int j u)) (hl : 2 < its.length) (hz : its.length ≤ sizeLine) :
    wpAny (model prog w) A (call (.ref f) [.ref a]) (PySem.W.KeyPure (.tuple [.int i, .int j]) s) (fun _ _ => False) s := by
  refine wpAny_call (PySem.W.kla_callFunE hroom hf rfl rfl rfl rfl hcd ?_)
  have hb : bindArgs (PySem.W.kla_fn "<lambda>" qual (lamArgs p) (lamBody p1 p2 p3 p4) lamScope clos pm (.ref c') ctv) ⟨[.ref a], []⟩ = (pure [("start", Value.ref a)] : Sem (List (Str × Value))) := by rfl
  rw [hb]
  refine wpAny_pure (wpAny_newFunctionEnv (fun y hy => ?_) (fun y hy => ?_) (fun h₁ hns hsb => ⟨hnl.fresh _ hsb, ?_⟩) rfl)
  · have : y = (Str.ofString "start", NameKind.local) := by simpa [PySem.W.kla_fn, lamScope] using hy
    rw [this]; exact fun z => by cases z
  · have : y = (Str.ofString "start", Value.ref a) := by simpa using hy
    rw [this]; rfl
  have kp : ∀ b o, s.heap.get? b = some o → h₁.get? b = some o := fun b o e => hsb.extBut b o (Nat.ne_of_lt (Heap.lt_size e)) (Heap.get?_push_of_some _ e)
  refine PySem.W.kla_codeExpr ?_
  refine Subscript_Slice (wpAny_Name (wpAny_loadName_local rfl rfl hns (v := .ref a) rfl ?_) (by decide))
  refine wpAny_Slice (evalPart_none_step (evalPart_some_step (wpAny_Constant_int (evalPart_none_step ?_))))
  have ht1 := ht.keeps kp
  have ht2 : IsTup (h₁.push { cls := .type "slice", data := .fields #[.none, .int 2 (s.toks + 1), .none] }) a its.toArray := ht1.keeps fun b o e => Heap.get?_push_of_some _ e
  refine ⟨"tuple", _, PyProof.Rows.slot_tuple_getitem.lookup, ht2.typeIs, ?_⟩
  have e0 : HT.sIx its.toArray.size 0 none = 0 := rfl
  have e2 : HT.sIx its.toArray.size its.toArray.size (some 2) = 2 := by
    rw [List.size_toArray]; show HT.sIx its.length its.length (some ((2 : Nat) : Int)) = 2; rw [HT.sIx_nat]; omega
  refine HT.getItem_tuple_cut ht2 (Heap.IsSliceOf.new ..) .none (.int 2 _) (by rw [e0, e2, List.size_toArray]; omega) ?_ (by rw [List.size_toArray]; exact hz)
  rw [e0, e2]
  have hh : ∀ b o, s.heap.get? b = some o → ((h₁.push { cls := .type "slice", data := .fields #[.none, .int 2 (s.toks + 1), .none] }).push { cls := .type "tuple", data := .seq ((its.toArray.toList.drop 0).take (2 - 0)).toArray }).get? b = some o := fun b o e => Heap.get?_push_of_some _ (Heap.get?_push_of_some _ (kp b o e))
  refine ⟨_, _, rfl, hh, .tuple (Heap.get?_push_size _ rfl) rfl rfl ?_⟩
  match its, h0, h1, hl with
  | [], h0, _, _ => simp at h0
  | [_], _, h1, _ => simp at h1
  | a0 :: a1 :: r, h0, h1, _ =>
    simp only [List.getElem?_cons_zero, List.getElem?_cons_succ, Option.some.injEq] at h0 h1
    subst h0 h1
    exact .cons (.int _ _) (.cons (.int _ _) .nil)
section
variable {X : Cx} {pins : List (Addr × Obj)} {σ : L2.St} {H : Hp} {s : Shared}
theorem lam_new {c P : Addr} {params : Arguments} {body : Expr} {scope : Scope} {pos : Pos} {E : Value → Shared → Prop} {Q : Value → Shared → Prop} (I : Inv X pins σ H s) (TB : LamX.TabB X.base X.mg c P) (hcode : X.env.code = .ref c)
    (hT : LamX.TabS H P (X.env.qual ++ "<lambda>")) (hdef : defaultsOf params X.env = ([], [])) (hfree : ∀ y ∈ scope.names, y.2 = .free → ∃ c, X.env.cells.lookup y.1 = some c)
    (h : ∀ (f c' : Addr) (pm ctv : Value) (H1 : Hp) (s' : Shared), Inv X pins σ H1 s' → (∀ b o, b ≠ P → H b = some o → H1 b = some o) → LamX.TabS H1 P (X.env.qual ++ "<lambda>") →
      s'.heap.get? f = some (PySem.W.kla_obj "<lambda>" (X.env.qual ++ "<lambda>") params body scope (cloFrom X.env.cells scope.names []) pm c' ctv) → H1 f = none → H1 c' = some (LamX.CodeO c' (X.env.qual ++ "<lambda>")) → Q (.ref f) s') :
    wpAny (model X.prog X.w) X.A (eval (.Lambda params body scope pos) X.env) Q E s := by
  obtain ⟨ps, hP, ht, ha⟩ := hT
  refine PySem.W.kla_eval hdef ?_
  have bP : s.heap.BuiltinsAt X.mg P := TB.bm.keeps I.bk
  have hP' : s.heap.get? P = some { cls := .none, data := .fields ps } := I.hok P _ hP
  cases hc : codeAmong pos ps.toList with
  | none =>
    refine PySem.W.kla_makeFunction (mg := X.mg) (c := c) (P := P) (ps := ps) (closure_ok hfree) I.ok.glob (I.mod.glob.keeps I.bk) hcode (TB.code.keeps I.bk) hP' ht hc TB.gP bP fun c' ctv h' tk hx hge hlt hrec htb => ?_
    obtain ⟨c2, oc, vs, t, e2, hoc, hd, hv⟩ := hrec
    cases e2
    have nC : H c' = none := I.hok.fresh hge
    have I1 := LamX.inv_table (t' := tk) (more := #[rawInt pos.line, rawInt pos.col, .ref c']) (h' := h'.push (PySem.W.kla_obj "<lambda>" (X.env.qual ++ "<lambda>") params body scope (cloFrom X.env.cells scope.names []) ((X.mg "__name__").getD .none) c' ctv)) I hP
      (fun b o hb e => Heap.get?_push_of_some _ (hx b o hb e)) (Heap.get?_push_of_some _ htb) hge ⟨oc, vs, t, Heap.get?_push_of_some _ hoc, hd, hv⟩
    have eL : (ps ++ #[rawInt pos.line, rawInt pos.col, .ref c']).toList = ps.toList ++ [rawInt pos.line, rawInt pos.col, .ref c'] := by simp
    have keep : ∀ b o, b ≠ P → H b = some o → upd (upd H P (.tbl (ps ++ #[rawInt pos.line, rawInt pos.col, .ref c']))) c' (LamX.CodeO c' (X.env.qual ++ "<lambda>")) b = some o := fun b o nb e => by
      rw [upd_ne (ne_of_none e nC), upd_ne nb]; exact e
    refine h h'.objs.size c' ((X.mg "__name__").getD .none) ctv _ _ I1 keep ⟨_, by rw [upd_ne (ne_of_none hP nC), upd_same], by rw [eL]; exact PySem.TriplesOk_snoc _ _ _ _ ht, fun p' cv hcv => ?_⟩ (Heap.get?_push_size _ rfl) ?_ upd_same
    · rw [eL] at hcv
      rcases LamX.among_app _ ht hcv with z | z
      · obtain ⟨c0, e1, e2⟩ := ha p' cv z
        exact ⟨c0, e1, keep _ _ (fun q => by rw [q, hP] at e2; cases e2) e2⟩
      · exact ⟨c', z, upd_same⟩
    · have hsz : s.heap.objs.size ≤ h'.objs.size := Nat.le_trans hge (Nat.le_of_lt hlt)
      rw [upd_ne (Nat.ne_of_gt hlt), upd_ne (Nat.ne_of_gt (Nat.lt_of_lt_of_le (Heap.lt_size hP') hsz))]
      exact I.hok.fresh hsz
  | some cv =>
    obtain ⟨c', e, hco⟩ := ha pos cv hc
    subst e
    refine PySem.W.kla_makeFunctionHit (mg := X.mg) (c := c) (P := P) (ps := ps) (closure_ok hfree) I.ok.glob (I.mod.glob.keeps I.bk) hcode (TB.code.keeps I.bk) hP' ht hc bP fun ctv h' tk hx hsz => ?_
    have I1 : Inv X pins σ H { s with heap := h'.push (PySem.W.kla_obj "<lambda>" (X.env.qual ++ "<lambda>") params body scope (cloFrom X.env.cells scope.names []) ((X.mg "__name__").getD .none) c' ctv), toks := tk } := I.kept fun b o e => Heap.get?_push_of_some _ (hx b o e)
    exact h h'.objs.size c' ((X.mg "__name__").getD .none) ctv H _ I1 (fun _ _ _ e => e) ⟨ps, hP, ht, ha⟩ (Heap.get?_push_size _ rfl) (I.hok.fresh hsz) hco
end
theorem tab_one {K : PySem.W.Frag} {P : Addr} {q q' : Str} (h : IsTab K P q) (h' : IsTab K P q') : q = q' := by
  obtain ⟨ok, p, hp, h1, h2, h3⟩ := h
  obtain ⟨_, p', hp', h1', h2', h3'⟩ := h'
  have nd := of_decide_eq_true ok
  have m1 : p ∈ lamDefs.filter fun p => hdB K p.1 := List.mem_filter.mpr ⟨hp, h1⟩
  have m2 : p' ∈ lamDefs.filter fun p => hdB K p.1 := List.mem_filter.mpr ⟨hp', h1'⟩
  have : p = p' := by
    obtain ⟨i, hi, ei⟩ := List.mem_iff_getElem.mp m1
    obtain ⟨j, hj, ej⟩ := List.mem_iff_getElem.mp m2
    have e : ((lamDefs.filter fun p => hdB K p.1).map fun p => (He.cT K p.1).2)[i]? = ((lamDefs.filter fun p => hdB K p.1).map fun p => (He.cT K p.1).2)[j]? := by
      rw [List.getElem?_map, List.getElem?_map, List.getElem?_eq_getElem hi, List.getElem?_eq_getElem hj, ei, ej]
      exact congrArg some (h2.symm.trans h2')
    have := (List.getElem?_inj (by rw [List.length_map]; exact hi) nd).mp e
    subst this
    rw [← ei, ← ej]
  rw [h3, h3', this]
section
variable {K : PySem.W.Frag} {mg : Str → Option Value} {B F : Hp} {rho : List Addr} {st : List O} {H H1 : Hp} {P : Addr} {q : Str}
/-- the store behind it -/
theorem Core.lam (c : Core K mg B F rho st H) (it : IsTab K P q) (k : ∀ b o, b ≠ P → H b = some o → H1 b = some o) (t : LamX.TabS H1 P q) : Core K mg B F rho st H1 := by
  obtain ⟨hB, hF, _⟩ := c.tabs P q it
  refine ⟨fun b o e => k b o (fun z => by rw [z, hF] at e; cases e) (c.same b o e), fun b o e => k b o (fun z => by rw [z, hB] at e; cases e) (c.frame b o e), c.apart, c.off, c.nd, c.len, fun j b o e1 e2 => ?_, fun j b e => ?_, fun P' q' it' => ?_⟩
  · exact (c.own j b o e1 e2).mono (Same.refl _) (Pre.refl _) (fun z => z) (fun u z => k b u (fun y => c.noX e1 ⟨q, y ▸ it⟩) z)
  · obtain ⟨u, e1, e2⟩ := c.liv j b e
    exact ⟨u, k b u (fun y => c.noX e ⟨q, y ▸ it⟩) e1, e2⟩
  · obtain ⟨h1, h2, ps, h3, h4, h5⟩ := c.tabs P' q' it'
    refine ⟨h1, h2, ?_⟩
    by_cases z : P' = P
    · subst z
      rw [tab_one it' it]; exact t
    · refine ⟨ps, k _ _ z h3, h4, fun pos cv hc => ?_⟩
      obtain ⟨c0, e1, e2⟩ := h5 pos cv hc
      obtain ⟨ps', h6⟩ := tab_at c.tabs it
      exact ⟨c0, e1, k _ _ (fun y => by rw [y, h6] at e2; cases e2) e2⟩
end
end Cl
namespace L2
open PySem PySem.Spec PyProof.Rows
def alikesB (ps : List PyData) : Bool := ps.all fun a => ps.all fun b => PySem.W.alike a b
theorem alikes_ok {ps : List PyData} (h : alikesB ps = true) : PySem.W.AllAlike ps := fun d hd d' hd' => List.all_eq_true.mp (List.all_eq_true.mp h d hd) d' hd'
section
variable {X : Cx}
def tSortLam (K : PySem.W.Frag) (P : Addr) (q : Str) (te : TE) : TE := fun σ H Q => te σ H fun x H1 => ∃ (a : Addr) (prs : List (V × Int × Int)), x = V.ref a ∧ SqL K H1 a (prs.map (·.1)) ∧ (∀ y ∈ prs, ∃ t r, y.1 = V.ref t ∧ SqT K H1 t (.int y.2.1 :: .int y.2.2 :: r) ∧ r ≠ []) ∧ LamX.TabS H1 P q ∧
  ∀ H2 p, (∀ b o, b ≠ P → H1 b = some o → H2 b = some o) → LamX.TabS H2 P q → H2 p = none → Q (.ref p) (upd H2 p (.lst ((prs.mergeSort fun u v => decide (u.2.1 < v.2.1 ∨ (u.2.1 = v.2.1 ∧ u.2.2 ≤ v.2.2))).map (·.1))))
theorem each_of_vals2 {prs : List (V × Int × Int)} : ∀ {us : List Value}, Vals (prs.map (·.1)) us → PySem.W.EachIs (fun u (b : V × Int × Int) => RelV b.1 u) us prs := by
  induction prs with
  | nil => intro us r; cases r; exact .nil
  | cons b l ih => intro us r; cases r with | cons h t => exact .cons h (ih t)
theorem vals_of_each2 : ∀ {us : List Value} {prs : List (V × Int × Int)}, PySem.W.EachIs (fun u (b : V × Int × Int) => RelV b.1 u) us prs → Vals (prs.map (·.1)) us
  | _, _, .nil => .nil
  | _, _, .cons h t => .cons h (vals_of_each2 t)
theorem pe_sortLam {k : Nat} {c P : Addr} {e : Expr} {te : TE} {p p0 p1 p2 p3 p4 lp kp pos : Pos} (hr : Room (k + 1) X.A) (TB : LamX.TabB X.base X.mg c P) (hcode : X.env.code = .ref c) (he : PE X e te) (hm : X.mg "sorted" = none) (hg : Gl X "sorted" := by rfl)
    (hst : backTo pos (starEach [e] X.env) = (false, eval e X.env) :: backTo pos (starEach [] X.env) := by rfl) (hpl : (backTo pos (starEach [e] X.env)).any (·.1) = false := by rfl) (na : starEach [e] X.env = (false, eval e X.env) :: starEach [] X.env := by rfl) :
    PE X (.Call (.Name "sorted" p) [e] [⟨some "key", .Lambda (Cl.lamArgs p0) (Cl.lamBody p1 p2 p3 p4) Cl.lamScope lp, kp⟩] pos) (tSortLam X.K P (X.env.qual ++ "<lambda>") te) := by
  refine ⟨fun pins s σ H Q I h => ?_⟩
  refine wpAny_Call_Name_kw (ld_blt I hg hm (by decide +kernel : bootBuiltins "sorted" = some (.builtin "sorted")) ?_ (by decide) (by decide))
  refine PyProof.Rows.callWith_kw (one_arg he I h (fun v s1 x H1 I1 r1 q1 => ?_) na) hst hpl
  obtain ⟨a, prs, rfl, hs, hd, hT, q⟩ := q1
  cases (show v = Value.ref a from r1)
  show wpAny _ _ (evalAll [(do let v ← eval (.Lambda (Cl.lamArgs p0) (Cl.lamBody p1 p2 p3 p4) Cl.lamScope lp) X.env; standAt pos; pure v)]) _ _ s1
  refine wpAny_evalAll_cons (wpAny_bind (Cl.lam_new I1 TB hcode hT rfl (fun y hy e => ?_) fun f c' pm ctv H2 s2 I2 k2 T2 hf hfn hc' => wpAny_bind (wpAny_standAt (wpAny_pure (wpAny_evalAll_nil ?_)))))
  · have : y = (Str.ofString "start", NameKind.local) := by simpa [Cl.lamScope] using hy
    rw [this] at e; cases e
  show wpAny _ _ (call (.builtin "sorted") [.ref a] [(Str.ofString "key", .ref f)]) _ _ s2
  obtain ⟨ps0, hPP, _⟩ := hT
  have sT : ∀ {t : Addr} {xs : List V}, SqT X.K H1 t xs → SqT X.K H2 t xs := fun {t xs} z => by
    rcases z with (z | ⟨o, z⟩) | z
    · exact .inl (.inl (k2 _ _ (fun y => by rw [y, hPP] at z; cases z) z))
    · exact .inl (.inr ⟨o, k2 _ _ (fun y => by rw [y, hPP] at z; cases z) z⟩)
    · exact .inr z
  have sL : SqL X.K H2 a (prs.map (·.1)) := by
    rcases hs with (z | ⟨o, z⟩) | z
    · exact .inl (.inl (k2 _ _ (fun y => by rw [y, hPP] at z; cases z) z))
    · exact .inl (.inr ⟨o, k2 _ _ (fun y => by rw [y, hPP] at z; cases z) z⟩)
    · exact .inr z
  obtain ⟨its, rv, hl, hz⟩ := I2.list sL
  have e := each_of_vals2 rv
  rw [List.length_map] at hz
  obtain ⟨⟨oc, vs, tt, hoc, hdc, hvc⟩, _, _⟩ := I2.hok c' _ hc'
  have al : PySem.W.AllAlike (prs.map fun b => PyData.tuple [.int b.2.1, .int b.2.2]) := fun d hd d' hd' => by
    obtain ⟨b, _, rfl⟩ := List.mem_map.mp hd
    obtain ⟨b', _, rfl⟩ := List.mem_map.mp hd'
    rfl
  have so : PySem.W.Sortable (prs.map fun b => PyData.tuple [.int b.2.1, .int b.2.2]) := .inl fun d hd => by
    obtain ⟨b, _, rfl⟩ := List.mem_map.mp hd
    exact ⟨_, _, rfl⟩
  refine PySem.W.sorted_key_data (fun b : V × Int × Int => PyData.tuple [.int b.2.1, .int b.2.2]) hl.isList e al so hz (fun b hb => ?_) (PyProof.Rows.ksk_s1 _ _) (fun x => PyProof.Rows.ksk_l1 _ _) (fun x => PyProof.Rows.ksk_t1 f x) (fun v b hR hb h tk kp => ?_) fun out cc h' tk kp hn hD ho eo => ?_
  · have := hr.un
    show X.A.units + 2 + 1 < cLine
    omega
  · obtain ⟨t, r, e1, e2, e3⟩ := hd b hb
    rw [e1] at hR
    cases (show v = Value.ref t from hR)
    obtain ⟨its2, rv2, ht2, hz2⟩ := I2.tuple (sT e2)
    cases rv2 with
    | @cons _ u1 _ _ ra rt =>
      cases rt with
      | @cons _ u2 _ us rb rt =>
        obtain ⟨t1, rfl⟩ := (show ∃ t, u1 = Value.int b.2.1 t from ra)
        obtain ⟨t2, rfl⟩ := (show ∃ t, u2 = Value.int b.2.2 t from rb)
        refine Cl.key_two (s := { s2 with heap := h, toks := tk }) (kp f _ hf) ⟨c', oc, vs, tt, rfl, kp _ _ hoc, hdc, hvc⟩ ?_ (I2.nolimit.keeps kp) (ht2.keeps kp) rfl rfl ?_ ?_
        · have := hr.dp
          show X.A.depth < recursionLimit
          omega
        · have := rt.length
          cases r with
          | nil => exact absurd rfl e3
          | cons _ _ => simp only [List.length_cons] at this ⊢; omega
        · have := rt.length
          simp only [List.length_cons] at hz2 ⊢; omega
  · have le : PySem.W.dataLe false (fun b : V × Int × Int => PyData.tuple [.int b.2.1, .int b.2.2]) = fun u v => decide (u.2.1 < v.2.1 ∨ (u.2.1 = v.2.1 ∧ u.2.2 ≤ v.2.2)) := PySem.W.dataLe_ii (fun b : V × Int × Int => b.2.1) (fun b => b.2.2)
    rw [le] at eo
    refine ⟨.ref _, upd H2 (s2.heap.objs.size + 1) (.lst ((prs.mergeSort fun u v => decide (u.2.1 < v.2.1 ∨ (u.2.1 = v.2.1 ∧ u.2.2 ≤ v.2.2))).map (·.1))), I2.laid (t' := tk) kp (Nat.le_succ _) ⟨?_, _, cc, vals_of_each2 eo, hD⟩, rfl, q H2 _ k2 T2 (I2.hok.fresh (Nat.le_succ _))⟩
    rw [List.length_map, List.length_mergeSort]; exact hz
end
end L2
namespace Cl
open PySem L2
def encD (d : D) : PyData := (toP d).getD .none
section
variable {K : PySem.W.Frag} {mg : Str → Option Value} {B F : Hp} {rho : List Addr} {st : List O} {H : Hp}
theorem toPs_enc : ∀ {ds : List D} {ps : List PyData}, toPs ds = some ps → ps = ds.map encD ∧ ∀ d ∈ ds, toP d = some (encD d)
  | [], ps, h => by unfold toPs at h; cases h; exact ⟨rfl, fun d hd => by cases hd⟩
  | d :: r, ps, h => by
    unfold toPs at h
    match e1 : toP d, e2 : toPs r with
    | some a, some b =>
      rw [e1, e2] at h; cases h
      obtain ⟨h1, h2⟩ := toPs_enc e2
      have ed : encD d = a := by unfold encD; rw [e1]; rfl
      refine ⟨by rw [List.map_cons, ed, h1], fun d' hd => ?_⟩
      rcases List.mem_cons.mp hd with rfl | hd
      · rw [e1, ed]
      · exact h2 d' hd
    | none, _ => rw [e1] at h; cases h
    | some a, none => rw [e1, e2] at h; cases h
theorem Reps.zip : ∀ {vs : List V} {ds : List D}, Reps K mg F vs ds → ∀ z ∈ vs.zip ds, Rep K mg F z.1 z.2
  | _, _, .nil, z, h => by cases h
  | _, _, .cons r t, z, h => by
    rcases List.mem_cons.mp h with rfl | h
    · exact r
    · exact Reps.zip t z h
theorem reps_of_zip : ∀ {l : List (V × D)}, (∀ z ∈ l, Rep K mg F z.1 z.2) → Reps K mg F (l.map (·.1)) (l.map (·.2))
  | [], _ => .nil
  | z :: l, h => .cons (h z List.mem_cons_self) (reps_of_zip fun y hy => h y (List.mem_cons_of_mem _ hy))
end
/-- sorted by the first two numbers -/
def twoO (d : D) : Option (Int × Int) := match d with
  | .tup (.int i :: .int j :: _ :: _) => some (i, j)
  | _ => none
def twoD (d : D) : Int × Int := (twoO d).getD (0, 0)
def leTwo (a b : D) : Bool := decide ((twoD a).1 < (twoD b).1 ∨ ((twoD a).1 = (twoD b).1 ∧ (twoD a).2 ≤ (twoD b).2))
def gSort2 (x : S) : M S := fun st => match (lstOf x st).bind datas with
  | some ds => if (ds.all fun d => (twoO d).isSome) = true then ok1 (.lst (ds.mergeSort leTwo)) st else none
  | none => none
@[simp] def eSort2 (fe : ME) : ME := fun sl => (fe sl).bind gSort2
section
variable {X : Cx} {B : Hp} {W : WX}
theorem qe_sortLam {k : Nat} {c P : Addr} {e : Expr} {fe : ME} {p p0 p1 p2 p3 p4 lp kp pos : Pos} (hr : Room (k + 1) X.A) (TB : LamX.TabB X.base X.mg c P) (hcode : X.env.code = .ref c) (it : IsTab X.K P (X.env.qual ++ "<lambda>")) (hm : X.mg "sorted" = none) (he : QE X B W e fe) (hg : Gl X "sorted" := by rfl)
    (hst : backTo pos (starEach [e] X.env) = (false, eval e X.env) :: backTo pos (starEach [] X.env) := by rfl) (hpl : (backTo pos (starEach [e] X.env)).any (·.1) = false := by rfl) (na : starEach [e] X.env = (false, eval e X.env) :: starEach [] X.env := by rfl) :
    QE X B W (.Call (.Name "sorted" p) [e] [⟨some "key", .Lambda (Cl.lamArgs p0) (Cl.lamBody p1 p2 p3 p4) Cl.lamScope lp, kp⟩] pos) (eSort2 fe) := by
  refine PEimp (pe_sortLam hr TB hcode he hm hg hst hpl na) fun s H Q q => one_of q fun F rho sl st H x dx c S' rx h => ?_
  unfold gSort2 at h
  match e : (lstOf dx st).bind datas with
  | none => rw [e] at h; exact h.elim
  | some ds =>
    rw [e] at h
    dsimp only at h
    split at h
    · rename_i hc
      obtain ⟨ss, h1, h2⟩ := Option.bind_eq_some_iff.mp e
      obtain ⟨a, vs, rfl, hs, rs⟩ := lst_at c rx h1
      have rd := rs.datas h2
      have hl := rd.length
      let T := vs.zip ds
      have hT1 : T.map (·.1) = vs := by show (vs.zip ds).map _ = _; rw [List.map_fst_zip (by omega)]
      have hT2 : T.map (·.2) = ds := by show (vs.zip ds).map _ = _; rw [List.map_snd_zip (by omega)]
      have e3 : (T.map fun z => (z.1, twoD z.2)).map (·.1) = vs := by rw [List.map_map]; exact hT1
      refine ⟨a, T.map fun z => (z.1, twoD z.2), rfl, by rw [e3]; exact SqL.of hs, fun y hy => ?_, (c.tabs _ _ it).2.2, fun H2 p k2 T2 hp => ?_⟩
      · obtain ⟨z, hz, rfl⟩ := List.mem_map.mp hy
        have rz := rd.zip z hz
        have := List.all_eq_true.mp hc z.2 (List.of_mem_zip hz).2
        match z, this, rz with
        | (v, .tup (.int i :: .int j :: d3 :: r)), _, rz =>
          cases rz with
          | tup h3 h4 _ =>
            cases h4 with
            | cons ra h4 =>
              cases ra
              cases h4 with
              | cons rb h4 =>
                cases rb
                refine ⟨_, _, rfl, SqT_mono c.same h3, fun z => ?_⟩
                subst z
                cases h4
      · have c2 := c.lam it k2 T2
        have m1 : ((T.map fun z => (z.1, twoD z.2)).mergeSort fun u v => decide (u.2.1 < v.2.1 ∨ (u.2.1 = v.2.1 ∧ u.2.2 ≤ v.2.2))).map (·.1) = (T.mergeSort fun u v => leTwo u.2 v.2).map (·.1) := by
          rw [← List.map_mergeSort (f := fun z : V × D => (z.1, twoD z.2)) (r := fun u v => leTwo u.2 v.2) (fun _ _ _ _ => rfl), List.map_map]
          rfl
        have m2 : ds.mergeSort leTwo = (T.mergeSort fun u v => leTwo u.2 v.2).map (·.2) := by
          rw [List.map_mergeSort (f := fun z : V × D => z.2) (s := leTwo) (fun _ _ _ _ => rfl), hT2]
        rw [m2] at h
        rw [m1]
        have rr : Reps X.K X.mg F ((T.mergeSort fun u v => leTwo u.2 v.2).map (·.1)) ((T.mergeSort fun u v => leTwo u.2 v.2).map (·.2)) := reps_of_zip fun z hz => rd.zip z ((List.mergeSort_perm T _).mem_iff.mp hz)
        exact h (upd F p _) rho _ (same_upd (c2.same.free hp)) (Pre.refl _) (c2.alloc hp) _ (.val (.lst upd_same (rr.mono (same_upd (c2.same.free hp)))))
    · exact h.elim
end
end Cl
namespace Cl
open PySem L2
section
variable (K : PySem.W.Frag) (mg : Str → Option Value)
def PostN (F H : Hp) (Q : VK) (E : XK) (m : Option (Except XD D)) : Prop := match m with
  | some (.ok (.lst ds)) => ∀ F' H' a vs, Same F F' → Same F' H' → SameX K H H' → Fresh F F' H → Tabs K F' H' → F' a = none → H a = none → H' a = some (.lst vs) → Reps K mg F' vs ds → Q (.ref a) H'
  | some (.error x) => ∀ F' H', Same F F' → Same F' H' → SameX K H H' → Fresh F F' H → Tabs K F' H' → ∀ cls dd, XRep K mg F' cls dd x → E cls dd H'
  | _ => False
def spN (n : Nat) (f : PF) : Sp := fun vs H Q E => ∃ F ds, Same F H ∧ Tabs K F H ∧ Reps K mg F vs ds ∧ ds.length = n ∧ PostN K mg F H Q E (f ds)
end
@[simp] def exitN (r : Option (Fl × Sl × List O)) : Option (Except XD D) := match r with
  | some (.rt (.obj j), _, st) => match st[j]? with
    | some (.lst l) => (datas l).map fun ds => .ok (.lst ds)
    | _ => none
  | some (.xc x, _, _) => some (.error x)
  | _ => none
@[simp] def asN (n : Nat) (b : MS) : PF := fun ds => exitN (b (mkSl n (ds.map .val)) [])
section
variable {P : Program} {w : World} {K : PySem.W.Frag} {mg : Str → Option Value} {base : Heap} {x qual : Str} {stm : Stmt} {f : Addr} {fd : FuncData} {N ps : List Str} {k : Nat} {b : MS} {dvs : List V} {kws : List (Str × V)}
theorem fn_N (Fn : FunD K x qual (defArgs stm) (defBody stm) (defScope stm) dvs kws f fd) (Sc : FnScope N ps (defScope stm)) (hb : Body P w K mg base N qual stm f k b) : FnOk P w K mg base (L2N.CX P w) (k + 1) f fd ps (spN K mg ps.length (asN N.length b)) := by
  refine Fn.ok Sc (fun vs H Q E h => ?_) (fun cdv A outer s H vs Q E hr h => ?_)
  · obtain ⟨F, ds, _, _, r, l, _⟩ := h
    rw [r.length]; exact l
  · obtain ⟨F, ds, e, tb, r, l, h⟩ := h
    refine ⟨_, hb cdv A outer s H E (less K H F) hr, F, [], _, [], Core.start e tb, slots_start r.vals, ?_⟩
    unfold asN exitN at h
    match q : b (mkSl N.length (ds.map .val)) [] with
    | none => rw [q] at h; exact h.elim
    | some (.nx, sl', st') => rw [q] at h; exact h.elim
    | some (.bk, sl', st') => rw [q] at h; exact h.elim
    | some (.ct, sl', st') => rw [q] at h; exact h.elim
    | some (.xc z, sl', st') =>
      rw [q] at h
      exact fun F' rho' H' s' e1 p1 c1 S1 cls dd xr => h F' H' e1 c1.same (c1.all e e1) c1.fresh c1.tb cls dd xr
    | some (.rt (.val d), sl', st') => rw [q] at h; exact h.elim
    | some (.rt (.obj j), sl', st') =>
      rw [q] at h
      dsimp only at h
      intro F' rho' H' s' e1 p1 c1 S1 v rv
      cases rv with
      | @obj _ a q2 =>
        match e2 : st'[j]? with
        | some (.lst ss) =>
          rw [e2] at h
          dsimp only at h
          match e3 : datas ss with
          | none => rw [e3] at h; exact h.elim
          | some dd =>
            rw [e3] at h
            obtain ⟨hF, us, hH, rs⟩ := c1.own j a _ q2 e2
            have hB := c1.off j a q2
            have hn : H a = none := by
              unfold less at hB
              split at hB
              · exact hB
              · rename_i hc
                have fa0 : F a = none := by
                  cases z : F a with
                  | none => rfl
                  | some u => rw [e1 a u z] at hF; cases hF
                exact absurd ⟨fa0, c1.noX q2⟩ hc
            exact h F' H' a us e1 c1.same (c1.all e e1) c1.fresh c1.tb hF hn hH (rs.datas e3)
        | some (.frz _) => rw [e2] at h; exact h.elim
        | some (.ins _ _) => rw [e2] at h; exact h.elim
        | some (.dct _) => rw [e2] at h; exact h.elim
        | some (.dcn _) => rw [e2] at h; exact h.elim
        | some (.tup _) => rw [e2] at h; exact h.elim
        | none => rw [e2] at h; exact h.elim
end
@[simp] def gCallN (n : Nat) (f : PF) (dds : List D) (ss : List S) : M S := (toDs ss).bind fun ds => fun st => if (ds ++ dds).length = n then (match f (ds ++ dds) with
  | some (.ok (.lst l)) => some (.ok (.obj st.length), st ++ [.lst (l.map .val)])
  | some (.error x) => some (.error x, st)
  | _ => none) else none
section
variable {K : PySem.W.Frag} {mg : Str → Option Value} {B F : Hp} {rho : List Addr} {st : List O} {H : Hp} {vs dvs : List V} {ss : List S} {dds : List D} {n : Nat} {Q : VK} {E : XK}
/-- a list that came from elsewhere -/
theorem Core.adopt {a : Addr} {us : List V} {l : List D} (c : Core K mg B F rho st H) (hF : F a = none) (hB : B a = none) (hr : a ∉ rho) (hH : H a = some (.lst us)) (r : Reps K mg F us l) : Core K mg B F (rho ++ [a]) (st ++ [.lst (l.map .val)]) H := by
  have at_ : ∀ (k : Nat) (b : Addr), (rho ++ [a])[k]? = some b → (k < rho.length ∧ rho[k]? = some b) ∨ (k = rho.length ∧ b = a) := fun k b e => by
    by_cases hk : k < rho.length
    · rw [List.getElem?_append_left hk] at e; exact .inl ⟨hk, e⟩
    · have hk' : k = rho.length := by
        have := (List.getElem?_eq_some_iff.mp e).1
        rw [List.length_append] at this; simp at this; omega
      subst hk'
      rw [List.getElem?_append_right (Nat.le_refl _), Nat.sub_self] at e
      cases e
      exact .inr ⟨rfl, rfl⟩
  refine ⟨c.same, c.frame, c.apart, fun k b e => ?_, ?_, ?_, fun k b q e1 e2 => ?_, fun k b e => ?_, c.tabs⟩
  · rcases at_ k b e with ⟨_, e⟩ | ⟨_, rfl⟩
    · exact c.off k b e
    · exact hB
  · refine List.nodup_append.mpr ⟨c.nd, by simp, fun x hx y hy => ?_⟩
    have : y = a := by simpa using hy
    rw [this]; exact fun z => hr (z ▸ hx)
  · rw [List.length_append, List.length_append, c.len]; rfl
  · rcases at_ k b e1 with ⟨hk, e⟩ | ⟨rfl, rfl⟩
    · rw [List.getElem?_append_left (by rw [← c.len]; exact hk)] at e2
      exact (c.own k b q e e2).mono (Same.refl _) (Pre.app _ _) (fun z => z) (fun u z => z)
    · rw [c.len, List.getElem?_append_right (Nat.le_refl _), Nat.sub_self] at e2
      cases e2
      exact ⟨hF, us, hH, r.vals⟩
  · rcases at_ k b e with ⟨_, e⟩ | ⟨_, rfl⟩
    · exact c.liv k b e
    · exact ⟨_, hH, True.intro⟩
theorem callN_post {f : PF} (c : Core K mg B F rho st H) (rs : RepSs K mg F rho vs ss) (rd : ∀ F, Reps K mg F dvs dds) (h : Post K mg B (fun F' rho' H' d => ∀ v, RepS K mg F' rho' v d → Q v H') (fun c d H' => E c d H') F rho (gCallN n f dds ss st)) :
    spN K mg n f (vs ++ dvs) H Q E := by
  obtain ⟨F1, st1, ds, e1, c1, r1, st2, c2, e2, p2, h2⟩ := toDs_ok c rs h.bind
  split at h2
  · rename_i hl
    refine ⟨F1, ds ++ dds, c2.same, c2.tb, r1.append (rd F1), hl, ?_⟩
    match q : f (ds ++ dds) with
    | none => rw [q] at h2; exact h2.elim
    | some (.ok (.lst l)) =>
      rw [q] at h2
      intro F' H' a us e e' e3 fr tb hF hn hH r
      have c3 := c2.grow e e' e3 fr tb
      have hr : a ∉ rho := fun z => by
        obtain ⟨k, hk⟩ := List.getElem?_of_mem z
        exact c2.live k a hk hn
      refine h2 F' (rho ++ [a]) H' e (Pre.app _ _) (c3.adopt hF (c2.frame.free hn) hr hH r) _ (.obj ?_)
      rw [← c2.len, List.getElem?_append_right (Nat.le_refl _), Nat.sub_self]; rfl
    | some (.error x) => rw [q] at h2; exact fun F' H' e e' e3 fr tb cls dd xr => h2 F' rho H' e (Pre.refl _) (c2.grow e e' e3 fr tb) cls dd xr
    | some (.ok .non) => rw [q] at h2; exact h2.elim
    | some (.ok (.bl _)) => rw [q] at h2; exact h2.elim
    | some (.ok (.int _)) => rw [q] at h2; exact h2.elim
    | some (.ok (.str _)) => rw [q] at h2; exact h2.elim
    | some (.ok (.tup _)) => rw [q] at h2; exact h2.elim
    | some (.ok (.scr _)) => rw [q] at h2; exact h2.elim
    | some (.ok (.ins _ _)) => rw [q] at h2; exact h2.elim
    | some (.ok (.dct _)) => rw [q] at h2; exact h2.elim
    | some (.ok (.vv _)) => rw [q] at h2; exact h2.elim
  · exact h2.elim
end
def CallNOk (P : Program) (w : World) (K : PySem.W.Frag) (mg : Str → Option Value) (base : Heap) (x : Str) (k n : Nat) (dds : List D) (f : PF) : Prop := ∃ (fa : Addr) (fd : FuncData) (ps : List Str) (dvs : List V) (dsv : List Value), FnOk P w K mg base (L2N.CX P w) k fa fd ps (spN K mg n f) ∧ mg x = some (.ref fa) ∧ PySem.W.keepIn K (.ref fa) = true ∧ Binds K fd ps dsv ∧ Vals dvs dsv ∧ (∀ F, Reps K mg F dvs dds)
section
variable {X : Cx} {B : Hp} {W : WX} {k j n : Nat} {dds : List D} {x c m : Str} {p p2 pos apos pos2 : Pos} {e o : Expr} {es : List Expr} {fs : MA} {fo fe : ME} {f : PF} {g : OF}
theorem qe_cN (h : CallNOk X.prog X.w X.K X.mg X.base x j n dds f) (hr : Room k X.A) (hj : j ≤ k) (tk : Takes X W) (ha : QA X B W (e :: es) fs) (hg : Gl X x := by rfl) (hdb : (x == ("__debug__" : Str)) = false := by decide) (he : starEach (e :: es) X.env = (false, eval e X.env) :: starEach es X.env := by rfl) (hpl : (backTo pos (starEach es X.env)).any (·.1) = false := by rfl) :
    QE X B W (.Call (.Name x p) (e :: es) [] pos) (eArgs (gCallN n f dds) fs) := by
  obtain ⟨fa, fd, ps, dvs, dsv, F, hm, hk, hb, hd, rd⟩ := h
  exact PEimp (pe_callSD F (hr.mono hj) hg hm hk hb hd (fun σ => passAt tk σ) ha hdb he hpl) fun s H Q q => args_of q fun F rho st H vs ds c rs p => callN_post c rs rd p
@[simp] def gNeg : S → M S
  | .val (.int i) => fun st => ok1 (.int (-i)) st
  | _ => M.stuck
@[simp] def eNeg (a : ME) : ME := fun sl => (a sl).bind gNeg
theorem qe_neg (he : QE X B W e fe) : QE X B W (.UnaryOp .USub e pos) (eNeg fe) := by
  refine PEimp (pe_un un_neg he) fun s H Q q => one_of q fun F rho sl st H x dx c S' rx h => ?_
  cases rx with
  | obj _ => exact h.elim
  | val rx =>
    cases rx with
    | int i => exact ⟨i, rfl, h.done c _ (.val (.int _))⟩
    | _ => exact h.elim
@[simp] def aStar (a : ME) (r : MA) : MA := fun sl => (a sl).bind fun x => fun st => match seqOf x st with
  | some l => (r sl).bind (fun l2 => M.pure (l ++ l2)) st
  | none => none
end
section
variable {K : PySem.W.Frag} {mg : Str → Option Value}
def gSIndex : S → List S → M S
  | .val (.str a), [.val (.str b)] => fun st => match Builtin.Str.occurrences a b 0 a.length 1 with
    | i :: _ => ok1 (.int (i : Nat)) st
    | [] => none
  | _, _ => M.stuck
theorem ms_sindex : MtS K mg (fun x xs H Q => ∃ a b i rest, x = .str a ∧ xs = [.str b] ∧ Builtin.Str.occurrences a b 0 a.length 1 = i :: rest ∧ Q (.int (i : Nat)) H) gSIndex := by
  intro W B F rho st H x vs dx ds Q c rx rs h
  cases rx with
  | obj _ => exact h.elim
  | val rx =>
    cases rx with
    | str a =>
      cases rs with
      | nil => exact h.elim
      | cons r t =>
        cases r with
        | obj _ => exact h.elim
        | val r =>
          cases r with
          | str b =>
            cases t with
            | cons _ _ => exact h.elim
            | nil =>
              simp only [gSIndex] at h
              match e : Builtin.Str.occurrences a b 0 a.length 1 with
              | [] => rw [e] at h; exact h.elim
              | i :: r => rw [e] at h; exact ⟨a, b, i, r, rfl, rfl, e, h.done c _ (.val (.int _))⟩
          | _ => exact h.elim
    | _ => exact h.elim
end
def rgD (a b : Int) : List D := (List.range (b - a).toNat).map fun i => D.int (a + (i : Nat))
theorem reps_rg {K : PySem.W.Frag} {mg : Str → Option Value} {F : Hp} (a b : Int) : Reps K mg F (rgV a b) (rgD a b) := by
  unfold rgV rgD
  generalize List.range (b - a).toNat = l
  induction l with
  | nil => exact .nil
  | cons x l ih => exact .cons (.int _) ih
def gLRg1 (x : S) : M S := fun st => match x with
  | .val (.int n) => if 0 ≤ n ∧ n ≤ 16777216 then ok1 (.lst (rgD 0 n)) st else none
  | _ => none
@[simp] def eLRg1 (a : ME) : ME := fun sl => (a sl).bind gLRg1
section
variable {X : Cx} {B : Hp} {W : WX} {e : Expr} {fe : ME} {p pos p2 pos2 : Pos}
theorem qe_lrg1 (hc : X.calm = true) (hm : X.mg "list" = none) (hm2 : X.mg "range" = none) (he : QE X B W e fe) (hg : Gl X "list" := by rfl) (hg2 : Gl X "range" := by rfl)
    (na : starEach [e] X.env = (false, eval e X.env) :: starEach [] X.env := by rfl) (na2 : starEach [.Call (.Name "range" p2) [e] [] pos2] X.env = (false, eval (.Call (.Name "range" p2) [e] [] pos2) X.env) :: starEach [] X.env := by rfl) :
    QE X B W (.Call (.Name "list" p) [.Call (.Name "range" p2) [e] [] pos2] [] pos) (eLRg1 fe) := by
  refine PEimp (pe_listRg hc hg hm (prg_1 hg2 hm2 he na) na2) fun s H Q q => one_of q fun F rho sl st H x dx c S' rx h => ?_
  unfold gLRg1 at h
  split at h
  · rename_i n
    split at h
    · rename_i hn
      cases rx with
      | val rx =>
        cases rx
        exact ⟨n, rfl, RgOk.of_le (by omega) hn.2 (by omega) hn.1, fun q hq => h (upd F q _) rho _ (same_upd (c.same.free hq)) (Pre.refl _) (c.alloc hq) _ (.val (.lst upd_same (reps_rg 0 n)))⟩
    · exact h.elim
  · exact h.elim
end
end Cl
namespace Cl
open PySem L2
/-- a def that makes lambdas: its code object, its table -/
def LamOk (K : PySem.W.Frag) (mg : Str → Option Value) (base : Heap) (fd : FuncData) (qual : Str) : Prop := ∃ c P, fd.code = .ref c ∧ LamX.TabB base mg c P ∧ IsTab K P ((qual ++ ".<locals>.") ++ "<lambda>")
section
variable {P : Program} {w : World} {K : PySem.W.Frag} {mg : Str → Option Value} {base : Heap} {x qual : Str} {stm : Stmt} {f : Addr} {fd : FuncData} {N ps : List Str} {k : Nat} {b : MS} {dvs : List V} {kws : List (Str × V)}
abbrev BodyL (P : Program) (w : World) (K : PySem.W.Frag) (mg : Str → Option Value) (base : Heap) (N : List Str) (qual : Str) (stm : Stmt) (f : Addr) (fd : FuncData) (k : Nat) (b : MS) : Prop :=
  ∀ (cdv : Value) (A : Around) (outer : List Env) (s : Shared) (H : Hp) (E : XK) (B : Hp), fd.code = cdv → Room k (A.deeper (PyProof.Rows.envOfC qual (defScope stm) s.heap.objs.size f cdv)) →
    QSs (cxOf (L2N.CX P w) P w K mg base N qual (defScope stm) f cdv A outer s H E) B (fun c d _ H => E c d H) (defBody stm) b
theorem fn_CL (Fn : FunD K x qual (defArgs stm) (defBody stm) (defScope stm) dvs kws f fd) (Sc : FnScope N ps (defScope stm)) (hb : BodyL P w K mg base N qual stm f fd k b) : FnOk P w K mg base (L2N.CX P w) (k + 1) f fd ps (spO K mg ps.length (asC N.length b)) := by
  obtain ⟨oc, od, dV, kV, doc, pm, an, cdv, ct, osl, rfl, lk, hcd, _, _⟩ := Fn.ex
  refine fn_of lk hcd Sc (fun vs H Q E h => ?_) (fun A outer s H vs Q E hr h => ?_)
  · obtain ⟨B, F, rho, st, ss, _, r, l, _⟩ := h
    rw [r.length]; exact l
  · obtain ⟨B, F, rho, st, ss, c, r, l, h⟩ := h
    refine ⟨_, hb cdv A outer s H E B rfl hr, F, rho, _, st, c, slots_start r, ?_⟩
    unfold asC exitC at h
    rw [← c.len] at h
    match q : b (mkSl N.length ss) st with
    | none => rw [q] at h; exact h
    | some (.nx, sl', st') =>
      rw [q] at h
      dsimp only at h
      split at h
      · rename_i hc
        exact fun F' rho' H' s' e1 p1 c1 S1 => h F' rho H' e1 (Pre.refl _) (c1.cut p1 hc.1 hc.2) .non (.val .non)
      · exact h.elim
    | some (.bk, sl', st') => rw [q] at h; exact h.elim
    | some (.ct, sl', st') => rw [q] at h; exact h.elim
    | some (.xc z, sl', st') =>
      rw [q] at h
      dsimp only at h
      split at h
      · rename_i hc
        exact fun F' rho' H' s' e1 p1 c1 S1 cls dd xr => h F' rho H' e1 (Pre.refl _) (c1.cut p1 hc.1 hc.2) cls dd xr
      · exact h.elim
    | some (.rt (.obj j), sl', st') => rw [q] at h; exact h.elim
    | some (.rt (.val d), sl', st') =>
      rw [q] at h
      dsimp only at h
      split at h
      · rename_i hc
        intro F' rho' H' s' e1 p1 c1 S1 v rv
        cases rv with
        | val rv => exact h F' rho H' e1 (Pre.refl _) (c1.cut p1 hc.1 hc.2) v (.val rv)
      · exact h.elim
end
end Cl
namespace Cl
open PySem L2
/-- what is known of an error class with attributes -/
def oexB (K : PySem.W.Frag) (C : Addr) : Bool := match K.lookup C with
  | some ⟨.type t, _, .cls cd, sl⟩ => (match cd.mro, sl.toList with
    | .ref C' :: bm, [_, _, _, _, some (.builtin n), _] => t == "type" && (C' == C && (n == "ValueError.__new__" && (!cd.hasDel && (cd.hasDict && PySem.HandSPX.refsVE bm))))
    | _, _ => false)
  | _ => false
def errB (K : PySem.W.Frag) (x : Str) (fn : List Str) : Bool :=
  oexB K (He.ga K x) && (He.eqO (PySem.W.findIn K (.ref (He.ga K x)) "__setattr__") (some (some (.builtin "object.__setattr__"))) &&
    (decide (PySem.W.subIn K (.ref (He.ga K x)) (.type "BaseException") = some true) && (decide (PySem.W.typeIn K (.ref (He.ga K x)) = some (.type "type")) &&
      (PySem.W.keepIn K (.ref (He.ga K x)) && (He.eqO (PySem.W.findIn K (.ref (He.ga K x)) "__init__") (some (some (.ref (He.ma K (He.ga K x) "__init__")))) &&
        (decide (PySem.W.typeIn K (.ref (He.ma K (He.ga K x) "__init__")) = some (.type "function")) && fn.all fun f => He.eqO (PySem.W.findIn K (.ref (He.ga K x)) f) (some none)))))))
def ginB (K : PySem.W.Frag) (x : Str) : Bool :=
  He.eqO (PySem.W.specialIn K (.ref (He.ga K x)) "__getattribute__") (some (some (.builtin "type.__getattribute__"))) && (PySem.W.readsIn K (He.ga K x) (.type "type") &&
    (match PySem.W.findCls K (.ref (He.ga K x)) (.type "type") "__init__" with
    | some (.val v) => decide (v = .builtin "ValueError.__init__")
    | _ => false))
/-- the tables of lambdas are among tf -/
def lamB (K : PySem.W.Frag) (tf : List He.Defn) : Bool := lamOk K && lamDefs.all fun p => !hdB K p.1 || decide (p.1 ∈ tf)
theorem oexB_ok {K : PySem.W.Frag} {C : Addr} (h : oexB K C = true) : ∃ nm q N bs bm sn sub ab col dd k0 k1 k2 k3 k5, K.lookup C = some (PySem.excClassObj nm q C N bs bm true sn sub ab col dd k0 k1 k2 k3 k5 "ValueError.__new__") ∧ PySem.HandSPX.refsVE bm = true := by
  unfold oexB at h
  split at h
  · rename_i t dd cd sl ho
    split at h
    · rename_i C' bm k0 k1 k2 k3 n k5 hm hs
      simp only [Bool.and_eq_true, beq_iff_eq, Bool.not_eq_true'] at h
      obtain ⟨rfl, rfl, rfl, hdel, hdct, hr⟩ := h
      obtain ⟨nm, bs, mro, ns, qn, hd, sn, sub, ab, col, del⟩ := cd
      dsimp only at hm hdel hdct
      subst hm hdel hdct
      have hsl : sl = #[k0, k1, k2, k3, some (.builtin "ValueError.__new__"), k5] := by
        obtain ⟨l⟩ := sl
        simp only at hs
        rw [hs]
      subst hsl
      exact ⟨nm, qn, ns, bs, bm, sn, sub, ab, col, dd, k0, k1, k2, k3, k5, ho, hr⟩
    · cases h
  · cases h
structure ErrOk (K : PySem.W.Frag) (x : Str) (fn : List Str) : Prop where
  o : OexC K (He.ga K x)
  i : PySem.W.findIn K (.ref (He.ga K x)) "__init__" = some (some (.ref (He.ma K (He.ga K x) "__init__")))
  t : PySem.W.typeIn K (.ref (He.ma K (He.ga K x) "__init__")) = some (.type "function")
  n : ∀ f ∈ fn, PySem.W.findIn K (.ref (He.ga K x)) f = some none
theorem errB_ok {K : PySem.W.Frag} {x : Str} {fn : List Str} (h : errB K x fn = true) : ErrOk K x fn := by
  obtain ⟨h1, h⟩ := He.ba h
  obtain ⟨h2, h⟩ := He.ba h
  obtain ⟨h3, h⟩ := He.ba h
  obtain ⟨h4, h⟩ := He.ba h
  obtain ⟨h5, h⟩ := He.ba h
  obtain ⟨h6, h⟩ := He.ba h
  obtain ⟨h7, h8⟩ := He.ba h
  exact ⟨⟨oexB_ok h1, He.eqO_ok h2, of_decide_eq_true h3, of_decide_eq_true h4, h5⟩, He.eqO_ok h6, of_decide_eq_true h7, fun f hf => He.eqO_ok (List.all_eq_true.mp h8 f hf)⟩
theorem ginB_ok {K : PySem.W.Frag} {x : Str} (h : ginB K x = true) : GInit K (He.ga K x) := by
  obtain ⟨h1, h⟩ := He.ba h
  obtain ⟨h2, h3⟩ := He.ba h
  refine ⟨He.eqO_ok h1, h2, ?_⟩
  split at h3
  · rename_i v e
    rw [e, of_decide_eq_true h3]
  · cases h3
section
variable {P : Program} {w : World} {K : PySem.W.Frag} {h : Heap} {mg : Str → Option Value} {base : Heap} {fa : List He.Fa} {fn : List He.DefD} {tf : List He.Defn} {ex : PySem.W.Frag → Bool} {ts : List He.Tab}
theorem e_int (X : K.In h) (G : h.Ns mainGlobals mg) (c : He.SaysD fa fn K) {x : Str} {i : Int} (hm : He.Fa.int x i ∈ fa) : GInt mg x i := He.int_ok X G (c.facts hm)
theorem e_str (X : K.In h) (G : h.Ns mainGlobals mg) (c : He.SaysD fa fn K) {x z : Str} (hm : He.Fa.str x z ∈ fa) : GStr mg x z := He.str_ok X G (c.facts hm)
theorem e_free (X : K.In h) (G : h.Ns mainGlobals mg) (c : He.SaysD fa fn K) {x : Str} (hm : He.Fa.free x ∈ fa) : mg x = none := He.free_ok X G (c.facts hm)
def noDB (K : PySem.W.Frag) (x : Str) : Bool := match K.lookup (He.ga K x) with
  | some ⟨.type c, none, _, _⟩ => decide (c = "tuple")
  | _ => false
theorem noDB_ok {x : Str} (h : noDB K x = true) : ∃ o, K.lookup (He.ga K x) = some o ∧ o.cls = .type "tuple" ∧ o.dict = none := by
  unfold noDB at h
  split at h
  · rename_i c _ _ e
    exact ⟨_, e, by rw [of_decide_eq_true h], rfl⟩
  · cases h
theorem e_tup (X : K.In h) (G : h.Ns mainGlobals mg) (c : He.SaysD fa fn K) {x : Str} {zs : List Str} (hm : He.Fa.glo x ∈ fa) (t : He.tupB K x (zs.map He.Dv.str) = true) (nd : noDB K x = true) : GTupS K mg x zs := by
  refine ⟨_, He.glo_ok X G (c.facts hm), fun H => ?_, noDB_ok nd⟩
  have := He.tupB_ok t H
  rw [List.map_map] at this
  exact this
theorem e_cls (X : K.In h) (G : h.Ns mainGlobals mg) (c : He.SaysD fa fn K) {n f : Str} (h1 : He.Fa.glo n ∈ fa) (h2 : He.Fa.cls n ∈ fa) (h3 : He.Fa.noat n f ∈ fa) : ClsF K mg [n] f := fun m hm C hC => by
  rw [List.mem_singleton.mp hm] at hC
  rw [He.glo_ok X G (c.facts h1)] at hC
  cases hC
  exact ⟨He.cls_ok (c.facts h2), He.noat_ok (c.facts h3)⟩
variable {x cn qual : Str} {stm : Stmt} {fd : FuncData} {k n : Nat} {f : PF} {g : OF} {ps : List Str} {kws : List (Str × V)}
theorem e_callP (X : K.In h) (G : h.Ns mainGlobals mg) (c : He.SaysD fa fn K) (Fn : FunD K x qual (defArgs stm) (defBody stm) (defScope stm) [] kws (He.ga K x) fd) (hm : He.Fa.glo x ∈ fa) (hb : Binds K fd ps [])
    (ok : FnOk P w K mg base (L2N.CX P w) k (He.ga K x) fd ps (spP K mg n f)) : CallPOk P w K mg base x k n [] f :=
  ⟨_, fd, ps, [], [], ok, He.glo_ok X G (c.facts hm), Fn.kp, hb, .nil, fun _ => .nil⟩
theorem e_callO (X : K.In h) (G : h.Ns mainGlobals mg) (c : He.SaysD fa fn K) (Fn : FunD K x qual (defArgs stm) (defBody stm) (defScope stm) [] kws (He.ga K x) fd) (hm : He.Fa.glo x ∈ fa) (hb : Binds K fd ps [])
    (ok : FnOk P w K mg base (L2N.CX P w) k (He.ga K x) fd ps (spO K mg n g)) : CallOOk P w K mg base x k n [] g :=
  ⟨_, fd, ps, [], [], ok, He.glo_ok X G (c.facts hm), Fn.kp, hb, .nil, fun _ => .nil⟩
theorem e_callN (X : K.In h) (G : h.Ns mainGlobals mg) (c : He.SaysD fa fn K) (Fn : FunD K x qual (defArgs stm) (defBody stm) (defScope stm) [] kws (He.ga K x) fd) (hm : He.Fa.glo x ∈ fa) (hb : Binds K fd ps [])
    (ok : FnOk P w K mg base (L2N.CX P w) k (He.ga K x) fd ps (spN K mg n f)) : CallNOk P w K mg base x k n [] f :=
  ⟨_, fd, ps, [], [], ok, He.glo_ok X G (c.facts hm), Fn.kp, hb, .nil, fun _ => .nil⟩
theorem e_methO (X : K.In h) (G : h.Ns mainGlobals mg) (c : He.SaysD fa fn K) (h1 : He.Fa.glo cn ∈ fa) (h2 : He.Fa.cls cn ∈ fa) (h3 : He.Fa.meth cn x ∈ fa) (hb : Binds K fd ps [])
    (ok : FnOk P w K mg base (L2N.CX P w) k (He.ma K (He.ga K cn) x) fd ps (spO K mg n g)) : MethOOk P w K mg base cn x k n [] g :=
  ⟨_, _, fd, ps, [], [], He.glo_ok X G (c.facts h1), He.cls_ok (c.facts h2), He.meth_ok (c.facts h3), ok, hb, .nil, fun _ => .nil⟩
theorem e_makeM (X : K.In h) (G : h.Ns mainGlobals mg) (c : He.SaysD fa fn K) (h1 : He.Fa.glo cn ∈ fa) (h2 : He.Fa.mkr cn ∈ fa) (hb : Binds K fd ps [])
    (ok : FnOk P w K mg base (L2N.CX P w) k (He.ma K (He.ga K cn) "__init__") fd ps (spM K mg cn n f)) : MakeMOk P w K mg base cn k n [] f :=
  ⟨_, _, fd, ps, [], [], He.glo_ok X G (c.facts h1), He.mkr_ok (c.facts h2), ok, hb, .nil, fun _ => .nil⟩
theorem e_makeO (X : K.In h) (G : h.Ns mainGlobals mg) (c : He.SaysD fa fn K) (h1 : He.Fa.glo cn ∈ fa) (h2 : He.Fa.mkr cn ∈ fa) (hb : Binds K fd ps [])
    (ok : FnOk P w K mg base (L2N.CX P w) k (He.ma K (He.ga K cn) "__init__") fd ps (spO K mg n g)) : MakeOOk P w K mg base cn k n [] g :=
  ⟨_, _, fd, ps, [], [], He.glo_ok X G (c.facts h1), He.mkr_ok (c.facts h2), ok, hb, .nil, fun _ => .nil⟩
theorem e_raise (X : K.In h) (G : h.Ns mainGlobals mg) (c : He.SaysD fa fn K) {fs : List Str} (h1 : He.Fa.glo cn ∈ fa) (T : ErrOk K cn fs) (hb : Binds K fd ps [])
    (ok : FnOk P w K mg base (L2N.CX P w) k (He.ma K (He.ga K cn) "__init__") fd ps (spX (He.ga K cn) fs.length fun ws => backF fs ws)) : RaiseXOk P w K mg base cn fs k :=
  ⟨_, _, fd, ps, T.o, T.i, T.t, ok, hb, He.glo_ok X G (c.facts h1)⟩
/-- a def that makes lambdas -/
theorem e_lam {p : He.Defn} {dvs : List V} (lb : lamB K tf = true) (hd : ∀ p ∈ tf, PySem.W.codeHdIn K (He.cT K p).1 (He.cT K p).2 = true) (Fn : FunD K x qual (defArgs stm) (defBody stm) (defScope stm) dvs kws (He.fAd K p) fd)
    (TB : ∀ q ∈ tf.map (He.cT K), LamX.TabB base mg q.1 q.2) (hp : p ∈ tf) (hl : (p, (qual ++ ".<locals>.") ++ "<lambda>") ∈ lamDefs) : LamOk K mg base fd qual := by
  obtain ⟨oc, od, dV, kV, doc, pm, an, cdv, ct, osl, e, lk, hcd, _, _⟩ := Fn.ex
  obtain ⟨cc, hcc⟩ := He.codeIn_ref hcd
  have e1 : fd.code = .ref cc := by rw [e]; exact hcc
  have e2 : He.codeOf K p = cc := He.codeOf_eq lk e1
  refine ⟨(He.cT K p).1, (He.cT K p).2, by rw [e1, ← e2]; rfl, TB _ (List.mem_map.mpr ⟨p, hp, rfl⟩), (He.ba lb).1, _, hl, hd p hp, rfl, rfl⟩
/-- the tables are all among cs -/
theorem tabs_start (lb : lamB K tf = true) {H F : Hp} (hH : ∀ q ∈ tf.map (He.cT K), H q.2 = some (.tbl #[])) (hF : ∀ q ∈ tf.map (He.cT K), F q.2 = none) : Tabs K F H := fun PT q ⟨_, p, hp, hb, e, _⟩ => by
  have hm := List.all_eq_true.mp (He.ba lb).2 p hp
  rw [hb] at hm
  have hm2 : p.1 ∈ tf := of_decide_eq_true (by simpa using hm)
  have hq : He.cT K p.1 ∈ tf.map (He.cT K) := List.mem_map.mpr ⟨_, hm2, rfl⟩
  subst e
  exact ⟨hF _ hq, LamX.TabS.nil (hH _ hq)⟩
theorem reps_ints {F : Hp} : ∀ (ns : List Int), Reps K mg F (ns.map V.int) (ns.map D.int)
  | [] => .nil
  | z :: zs => .cons (.int z) (reps_ints zs)
/-- the law's promise -/
theorem law_sp (lb : lamB K tf = true) {H : Hp} {a : Addr} {ns : List Int} {F_law : PF} (hH : ∀ q ∈ tf.map (He.cT K), H q.2 = some (.tbl #[])) (hS : SqL K H a (ns.map V.int)) (hl : F_law [.scr (ns.map D.int)] = some (.ok (.bl true))) :
    spP K mg 1 F_law [.ref a] H (fun v _ => v = .bl true) fun _ _ _ => False := by
  have key : ∀ F : Hp, Same F H → Tabs K F H → SqL K F a (ns.map V.int) → spP K mg 1 F_law [.ref a] H (fun v _ => v = .bl true) fun _ _ _ => False := fun F hs ht hq => by
    refine ⟨F, [.scr (ns.map D.int)], hs, ht, .cons (.scr hq (reps_ints ns)) .nil, rfl, ?_⟩
    rw [hl]
    intro F' H' _ _ _ _ _ v hv
    cases hv
    rfl
  have pick : ∀ u : HO, H a = some u → (∀ ps, u ≠ .tbl ps) → SqL K (fun b => if b = a then H a else none) a (ns.map V.int) → spP K mg 1 F_law [.ref a] H (fun v _ => v = .bl true) fun _ _ _ => False := fun u hu hn hq => by
    refine key (fun b => if b = a then H a else none) (fun b o e => ?_) (tabs_start lb hH fun q hq => ?_) hq
    · by_cases z : b = a
      · subst z; simpa using e
      · simp [z] at e
    · have : q.2 ≠ a := fun z => by
        have := hH q hq
        rw [z, hu] at this
        exact hn _ (Option.some.inj this)
      simp [this]
  rcases hS with (hS | ⟨o, hS⟩) | hS
  · exact pick _ hS (fun ps z => by cases z) (.inl (.inl (by simpa using hS)))
  · exact pick _ hS (fun ps z => by cases z) (.inl (.inr ⟨o, by simpa using hS⟩))
  · exact key (fun _ => none) (fun b o e => by cases e) (tabs_start lb hH fun q hq => rfl) (.inr hS)
end
end Cl
namespace Cl
open PySem L2
/-- an expression behind which a token is out -/
def PE1 (X : Cx) (e : Expr) (t : TE) : Prop := ∀ (pins : List (Addr × Obj)) (s : Shared) (σ : St) (H : Hp) (Q : VK), Inv X pins σ H s → t σ H Q →
  wpAny (model X.prog X.w) X.A (eval e X.env) (fun v s' => 1 ≤ s'.toks ∧ EP X pins σ Q v s') X.xe s
section
variable {X : Cx} {B : Hp} {W : WX} {o e : Expr} {es : List Expr} {t : TA} {to : TE} {T : String} {name : Str} {id : String} {r : V → List V → Hp → VK → Prop} {apos cpos : Pos} {g : S → List S → M S} {fo : ME} {fs : MA} {x y z : Str} {j j1 j2 : Nat} {cp c1 c2 : Pos}
theorem PE1imp {t t' : TE} (h : PE1 X e t) (i : ∀ s H Q, t' s H Q → t s H Q) : PE1 X e t' := fun pins s σ H Q I q => h pins s σ H Q I (i _ _ _ q)
theorem pe_repl1 (ho : PE1 X o to) (hyz : (y == z) = false)
    (hst : starEach [.Constant (.str y) j1 c1, .Constant (.str z) j2 c2] X.env = [(false, eval (.Constant (.str y) j1 c1) X.env), (false, eval (.Constant (.str z) j2 c2) X.env)])
    (hbase : attributeBase o "replace" X.env (eval o X.env) = eval o X.env) (hline : (apos.endLine == cpos.line) = true) :
    PE X (.Call (.Attribute o "replace" apos) [.Constant (.str y) j1 c1, .Constant (.str z) j2 c2] [] cpos) (CwR.tReplC to y z) := by
  constructor
  intro pins s σ H Q I h
  refine PySem.Call_method2 hbase hst hline (wpAny_mono (ho pins s σ H _ I h) ?_ fun _ _ q => q)
  rintro v s1 ⟨tok1, v', H1, I1, rv, x, rfl, fits, q⟩
  obtain ⟨tx, rfl⟩ := rv
  have n0 : s1.toks ≠ 0 := by omega
  refine ⟨"str", _, PySem.F.plainAttrs_str, PySem.F.slot_str_replace, PySem.F.type_str_replace, typeIs_str _ _ _, (fun _ e => nomatch e), ?_⟩
  refine Calls.callWith_builtin rfl (Calls.evalArgs_plain (Calls.spliced_cons (Calls.Constant_str (Calls.spliced_cons (Calls.Constant_str (Calls.spliced_nil ?_))))))
  refine PySem.SC.replace n0 (Nat.succ_ne_zero _) (Nat.ne_of_lt (Nat.lt_succ_self _)) hyz fits ?_
  intro t' k
  exact ⟨.str (Txt.replace x y z), H1, I1.tok k, ⟨t', rfl⟩, q⟩
/-- "..".join(..).replace(text, text) -/
def gRepl (y z : Str) : S → M S
  | .val (.str x) => fun st => if x.length + (x.length + 1) * z.length ≤ 16777216 then ok1 (.str (Txt.replace x y z)) st else none
  | _ => M.stuck
@[simp] def eRepl (y z : Str) (f : ME) : ME := fun sl => (f sl).bind (gRepl y z)
theorem qe_repl (ho : PE1 X o (tE X.K X.mg B W fo)) (hyz : (y == z) = false := by decide +kernel)
    (hst : starEach [.Constant (.str y) j1 c1, .Constant (.str z) j2 c2] X.env = [(false, eval (.Constant (.str y) j1 c1) X.env), (false, eval (.Constant (.str z) j2 c2) X.env)] := by rfl)
    (hbase : attributeBase o "replace" X.env (eval o X.env) = eval o X.env := by rfl) (hline : (apos.endLine == cpos.line) = true := by rfl) :
    QE X B W (.Call (.Attribute o "replace" apos) [.Constant (.str y) j1 c1, .Constant (.str z) j2 c2] [] cpos) (eRepl y z fo) := by
  refine PEimp (pe_repl1 ho hyz hst hbase hline) fun s H Q q => one_of q fun F rho sl st H x dx c S' rx h => ?_
  cases rx with
  | obj _ => exact h.elim
  | val rx =>
    cases rx with
    | str x =>
      simp only [gRepl] at h
      split at h
      · rename_i fits
        exact ⟨x, rfl, fits, h.done c _ (.val (.str _))⟩
      · exact h.elim
    | _ => exact h.elim
end
@[simp] def sTupA (n : Nat) (a : MA) (gs : MGs) : MS := sBind a fun ss sl st => if ss.length = n ∧ n ≤ 1000 then (gs ss sl st).map fun r => (.nx, r.1, r.2) else none
end Cl
namespace Cl
open PySem L2
mutual
theorem nk_hash (w w' : World) : ∀ (d : D) (k : NestedKey), nk d = some k → k.hash w = k.hash w'
  | .int i, k, h => by simp only [nk, Option.some.injEq] at h; subst h; rfl
  | .tup l, k, h => by
    simp only [nk, Option.map_eq_some_iff] at h
    obtain ⟨ks, h, rfl⟩ := h
    simp only [NestedKey.hash, nks_hash w w' l ks h]
  | .non, _, h => by simp [nk] at h
  | .bl _, _, h => by simp [nk] at h
  | .str _, _, h => by simp [nk] at h
  | .lst _, _, h => by simp [nk] at h
  | .scr _, _, h => by simp [nk] at h
  | .ins _ _, _, h => by simp [nk] at h
  | .dct _, _, h => by simp [nk] at h
  | .vv _, _, h => by simp [nk] at h
theorem nks_hash (w w' : World) : ∀ (l : List D) (ks : List NestedKey), nks l = some ks → NestedKey.hashes w ks = NestedKey.hashes w' ks
  | [], ks, h => by simp only [nks, Option.some.injEq] at h; subst h; rfl
  | d :: r, ks, h => by
    simp only [nks] at h
    match e1 : nk d, e2 : nks r with
    | some k, some ks' =>
      rw [e1, e2] at h
      cases h
      simp only [NestedKey.hashes, nk_hash w w' d k e1, nks_hash w w' r ks' e2]
    | none, _ => rw [e1] at h; cases h
    | some k, none => rw [e1, e2] at h; cases h
end
theorem nkk_nk {d : D} {k : NestedKey} (h : nkk d = some k) : nk d = some k ∧ k.depth ≤ 8 := by
  unfold nkk at h
  match e : nk d with
  | none => rw [e] at h; cases h
  | some k' =>
    rw [e] at h
    dsimp only at h
    split at h
    · cases h; exact ⟨rfl, by assumption⟩
    · cases h
mutual
/-- the value v is the key k -/
inductive KAt (K : PySem.W.Frag) (H : Hp) : V → NestedKey → Prop
  | int (i : Int) : KAt K H (.int i) (.num i)
  | tup {a : Addr} {vs : List V} {ks : List NestedKey} : SqT K H a vs → KAts K H vs ks → KAt K H (.ref a) (.tup ks)
inductive KAts (K : PySem.W.Frag) (H : Hp) : List V → List NestedKey → Prop
  | nil : KAts K H [] []
  | cons {v : V} {k : NestedKey} {vs : List V} {ks : List NestedKey} : KAt K H v k → KAts K H vs ks → KAts K H (v :: vs) (k :: ks)
end
mutual
theorem KAt.mono {K : PySem.W.Frag} {H H' : Hp} (e : Same H H') : ∀ {v : V} {k : NestedKey}, KAt K H v k → KAt K H' v k
  | _, _, .int i => .int i
  | _, _, .tup a b => .tup (SqT_mono e a) (KAts.mono e b)
theorem KAts.mono {K : PySem.W.Frag} {H H' : Hp} (e : Same H H') : ∀ {v : List V} {k : List NestedKey}, KAts K H v k → KAts K H' v k
  | _, _, .nil => .nil
  | _, _, .cons a b => .cons (KAt.mono e a) (KAts.mono e b)
end
mutual
theorem kat_of {K : PySem.W.Frag} {mg : Str → Option Value} {F : Hp} : ∀ {v : V} {d : D} {k : NestedKey}, Rep K mg F v d → nk d = some k → KAt K F v k
  | _, _, _, .int i, h => by simp only [nk, Option.some.injEq] at h; subst h; exact .int i
  | _, _, _, .tup a r _, h => by
    simp only [nk, Option.map_eq_some_iff] at h
    obtain ⟨ks, h, rfl⟩ := h
    exact .tup a (kats_of r h)
  | _, _, _, .non, h => by simp [nk] at h
  | _, _, _, .bl _, h => by simp [nk] at h
  | _, _, _, .str _, h => by simp [nk] at h
  | _, _, _, .lst _ _, h => by simp [nk] at h
  | _, _, _, .scr _ _, h => by simp [nk] at h
  | _, _, _, .ins _ _ _, h => by simp [nk] at h
  | _, _, _, .dct _ _, h => by simp [nk] at h
  | _, _, _, .vv _, h => by simp [nk] at h
theorem kats_of {K : PySem.W.Frag} {mg : Str → Option Value} {F : Hp} : ∀ {v : List V} {d : List D} {k : List NestedKey}, Reps K mg F v d → nks d = some k → KAts K F v k
  | _, _, _, .nil, h => by simp only [nks, Option.some.injEq] at h; subst h; exact .nil
  | _, _, _, .cons (d := d) (ds := ds) a b, h => by
    simp only [nks] at h
    match e1 : nk d, e2 : nks ds with
    | some k, some ks' => rw [e1, e2] at h; cases h; exact .cons (kat_of a e1) (kats_of b e2)
    | none, _ => rw [e1] at h; cases h
    | some k, none => rw [e1, e2] at h; cases h
end
abbrev KN := List (NestedKey × Addr × V)
def atN (kvs : KN) (k : NestedKey) : Option V := (kvs.find? fun p => decide (p.1 = k)).map (·.2.2)
abbrev PN : KN → List (NestedKey × Addr × Value) → Prop := Paired fun p q => p.1 = q.1 ∧ p.2.1 = q.2.1 ∧ RelV p.2.2 q.2.2
theorem PN.val {kvs : KN} {xs : List (NestedKey × Addr × Value)} (r : PN kvs xs) (k : NestedKey) : RelO (atN kvs k) ((atKey xs k).map (·.2)) := by
  induction r with
  | nil => exact True.intro
  | @cons p q ps qs h t ih =>
    obtain ⟨h1, _, h2⟩ := h
    by_cases e : p.1 = k
    · have e' : q.1 = k := h1.symm.trans e
      have a : atN (p :: ps) k = some p.2.2 := by simp [atN, List.find?_cons, e]
      have b : atKey (q :: qs) k = some q.2 := by simp [atKey, List.find?_cons, e']
      rw [a, b]; exact h2
    · have e' : ¬ q.1 = k := fun z => e (h1.trans z)
      have a : atN (p :: ps) k = atN ps k := by simp [atN, List.find?_cons, e]
      have b : atKey (q :: qs) k = atKey qs k := by simp [atKey, List.find?_cons, e']
      rw [a, b]; exact ih
/-- what all keys of the dict are -/
def KeysOk (K : PySem.W.Frag) (H : Hp) (kvs : KN) : Prop := ∀ e ∈ kvs, KAt K H (.ref e.2.1) e.1 ∧ e.1.depth ≤ 8 ∧ ∀ w w' : World, e.1.hash w = e.1.hash w'
end Cl
namespace L2
open PySem PySem.Spec PyProof.Rows
end L2
namespace Cl
open PySem L2
def dGet (l : List (D × S)) (k : NestedKey) : Option S := (l.find? fun p => decide (nkk p.1 = some k)).map (·.2)
section
variable {K : PySem.W.Frag} {mg : Str → Option Value} {B F : Hp} {rho : List Addr} {st : List O} {H : Hp}
theorem RepDN.keys (e : Same F H) : ∀ {kvs : KN} {l : List (D × S)}, RepDN K mg F rho kvs l → KeysOk K H kvs
  | _, _, .nil => fun _ h => nomatch h
  | _, _, .cons h r v t => fun x hx => by
    rcases List.mem_cons.mp hx with q | q
    · subst q
      exact ⟨(kat_of r (nkk_nk h).1).mono e, (nkk_nk h).2, fun w w' => nk_hash w w' _ _ (nkk_nk h).1⟩
    · exact RepDN.keys e t x q
theorem RepDN.len : ∀ {kvs : KN} {l : List (D × S)}, RepDN K mg F rho kvs l → kvs.length = l.length
  | _, _, .nil => rfl
  | _, _, .cons _ _ _ t => by rw [List.length_cons, List.length_cons, RepDN.len t]
theorem RepDN.get (k : NestedKey) : ∀ {kvs : KN} {l : List (D × S)}, RepDN K mg F rho kvs l → match dGet l k with
    | some s => ∃ v, atN kvs k = some v ∧ RepS K mg F rho v s
    | none => atN kvs k = none
  | _, _, .nil => rfl
  | _, _, .cons (k := k') (b := b) (v := v) (e := e) (d := d) (vs := vs) (ds := ds) h r rv t => by
    by_cases q : k' = k
    · subst q
      have e1 : dGet ((e, d) :: ds) k' = some d := by simp [dGet, List.find?_cons, h]
      have e2 : atN ((k', b, v) :: vs) k' = some v := by simp [atN, List.find?_cons]
      rw [e1]
      exact ⟨v, e2, rv⟩
    · have e1 : dGet ((e, d) :: ds) k = dGet ds k := by simp [dGet, List.find?_cons, h, q]
      have e2 : atN ((k', b, v) :: vs) k = atN vs k := by simp [atN, List.find?_cons, q]
      rw [e1, e2]
      exact RepDN.get k t
theorem RepDN.has {k : NestedKey} {kvs : KN} {l : List (D × S)} (r : RepDN K mg F rho kvs l) : (atN kvs k).isSome = (dGet l k).isSome := by
  have := r.get k
  match e : dGet l k with
  | some s => rw [e] at this; obtain ⟨v, h, _⟩ := this; rw [h]; rfl
  | none => rw [e] at this; rw [this]; rfl
end
@[simp] def sSetG (g : S → S → S → List O → Option (List O)) (o i v : ME) : MS := sBind (fun sl => (v sl).bind fun z => (o sl).bind fun x => (i sl).bind fun y => fun st => (g x y z st).map fun st' => (.ok (), st')) fun _ => sNext
section
variable {X : Cx} {B : Hp} {W : WX} {o i e : Expr} {fo fi fe : ME} {pos pos' : Pos} {t : TSet} {g : S → S → S → List O → Option (List O)}
/-- an item as a target among others -/
@[simp] def tgSub (g : S → S → S → List O → Option (List O)) (o i : ME) : MG := fun z sl st => match o sl st with
  | some (.ok x, st1) => match i sl st1 with
    | some (.ok y, st2) => match g x y z st2 with
      | some st3 => some (sl, st3)
      | none => none
    | _ => none
  | _ => none
/-- o[i] op= e -/
@[simp] def sAugI (gg : S → S → M S) (gp : S → S → M S) (gs : S → S → S → List O → Option (List O)) (o i v : ME) : MS :=
  sBind (fun sl => (o sl).bind fun x => (i sl).bind fun y => (gg x y).bind fun u => (v sl).bind fun z => (gp u z).bind fun r => fun st => (gs x y r st).map fun st' => (.ok (), st')) fun _ => sNext
/-- {}: a new dict of the store -/
@[simp] def eDictN : ME := fun _ st => some (.ok (.obj st.length), st ++ [.dcn []])
end
end Cl
namespace L2
open PySem PySem.Spec PyProof.Rows
end L2
namespace Cl
open PySem L2
end Cl
namespace Cl
open PySem L2
@[simp] def noX (m : M S) : M S := fun st => match m st with
  | some (.error _, _) => none
  | r => r
@[simp] def eProp (ns : List Str) (m : Str) (g : List S → M S) (a : ME) : ME := eMeth ns m (fun ss => noX (g ss)) a aNil
def gAd (K : PySem.W.Frag) (p : He.Defn) : Addr := match PySem.W.recIn K (He.fAd K p) "property" with
  | some (.ref a :: _) => a
  | _ => match PySem.W.recIn K (He.fAd K p) "classmethod" with
    | some (.ref a :: _) => a
    | _ => 0
def fnA (K : PySem.W.Frag) (a : Addr) : He.FnW := match K.lookup a with
  | some ⟨_, _, .func fd, _⟩ => some (fd.name, fd.qualname, fd.params, fd.body, fd.scope, fd.globals, fd.closure, fd.builtins)
  | _ => none
end Cl
namespace Cl
open PySem L2
/-- what is also told: the getters of properties -/
abbrev Prp : Type := He.Defn × He.DefD
abbrev AlZ : Type := He.AlX × List He.FnW
end Cl
namespace Cl
open PySem L2
def seeA (m : Nat) (acc : List Addr) : List Addr → Nat × List Addr
  | [] => (m, acc)
  | a :: r => match Nat.beq (Nat.land (Nat.shiftRight m a) 1) 1 with
    | true => seeA m acc r
    | false => seeA (Nat.lor m (Nat.shiftLeft 1 a)) (a :: acc) r
def kidsA (g : Addr → Option Obj) : List Addr → List Addr
  | [] => []
  | a :: r => match g a with
    | some o => He.refsD o ++ kidsA g r
    | none => kidsA g r
def bfsA (g : Addr → Option Obj) : Nat → Nat → List Addr → List Addr → List Addr
  | 0, _, _, all => all
  | n + 1, m, fr, all => match seeA m [] (kidsA g fr) with
    | (m2, new) => bfsA g n m2 new (all ++ new)
def rootsM (g : Addr → Option Obj) (n : Nat) : List Addr := bfsA g n (Nat.shiftLeft 1 PySem.mainGlobals) [PySem.mainGlobals] [cStatics, PySem.mainGlobals]
def partM (n : Nat) (g : Addr → Option Obj) : PySem.W.Frag := He.frT g (rootsM g n)
def toldM (n : Nat) (fa : List He.Fa) (fn : List He.DefD) (ts : List He.Tab) (pr : List Prp) (tf : List He.Defn) (ex : PySem.W.Frag → Bool) (g : Addr → Option Obj) : AlZ :=
  ((He.obsT fa fn ts (partM n g), ex (partM n g) && He.tabsB g tf (partM n g)), pr.map fun p => fnA (partM n g) (gAd (partM n g) p.1))
structure SaysM (fa : List He.Fa) (fn : List He.DefD) (ts : List He.Tab) (pr : List Prp) (tf : List He.Defn) (ex : PySem.W.Frag → Bool) (w : World) (h : Heap) (K : PySem.W.Frag) : Prop where
  x : He.SaysX fa fn ts tf ex w h K
  p : ∀ p ∈ pr, fnA K (gAd K p.1) = p.2.val
theorem toldM_says {n : Nat} {fa : List He.Fa} {fn : List He.DefD} {ts : List He.Tab} {tf : List He.Defn} {ex : PySem.W.Frag → Bool} {w : World} {h : Heap}
    (e : ((He.obsT fa fn ts (partM n h.get?), ex (partM n h.get?) && He.tabsB h.get? tf (partM n h.get?)) : He.AlX) = He.valX fn ts w) : He.SaysX fa fn ts tf ex w h (partM n h.get?) := by
  have both := Prod.ext_iff.mp e
  have more : ex (partM n h.get?) = true ∧ He.tabsB h.get? tf (partM n h.get?) = true := He.ba both.2
  have each : ∀ p ∈ tf, PySem.W.codeHdIn (partM n h.get?) (He.cT (partM n h.get?) p).1 (He.cT (partM n h.get?) p).2 = true ∧
      ∃ o, h.get? (He.cT (partM n h.get?) p).2 = some o ∧ He.emptyTab o = true := by
    intro p hp
    have both := He.ba (List.all_eq_true.mp more.2 p hp)
    generalize h.get? (He.cT (partM n h.get?) p).2 = found at both ⊢
    match found, both with
    | some o, both => exact ⟨both.1, o, rfl, both.2⟩
    | none, both => exact absurd both.2 Bool.false_ne_true
  constructor
  · exact both.1
  · exact more.1
  · exact fun p hp => (each p hp).1
  · intro p hp
    obtain ⟨o, ho, empty⟩ := (each p hp).2
    exact He.frT_none ho empty
  · intro p hp
    obtain ⟨o, ho, empty⟩ := (each p hp).2
    exact ho.trans (congrArg some (He.emptyTab_eq empty))
def hookM (n : Nat) (fa : List He.Fa) (fn : List He.DefD) (ts : List He.Tab) (pr : List Prp) (tf : List He.Defn) (ex : PySem.W.Frag → Bool) : PySem.W.Hook where
  α := AlZ
  obs := fun state => toldM n fa fn ts pr tf ex state.heap.get?
  val := fun w => (He.valX fn ts w, pr.map fun p => p.2.val)
  says := fun w h => ∃ K : PySem.W.Frag, K.In h ∧ SaysM fa fn ts pr tf ex w h K
  of := by
    intro _ _ e
    have both := Prod.ext_iff.mp e
    refine ⟨_, He.frT_in, toldM_says both.1, fun p hp => ?_⟩
    have := both.2
    exact List.map_inj_left.mp this p hp
  keeps := by
    rintro _ _ _ ⟨K, inside, told, pr⟩ stays
    refine ⟨K, PySem.W.Frag.In.keeps inside stays, ⟨told.t, told.more, told.hd, told.out, ?_⟩, pr⟩
    intro p hp
    exact stays _ _ (told.empty p hp)
theorem toldM_same {n : Nat} {fa : List He.Fa} {fn : List He.DefD} {ts : List He.Tab} {pr : List Prp} {tf : List He.Defn} {ex : PySem.W.Frag → Bool} {g : Addr → Option Obj} {state : Shared}
    (same : ∀ a, g a = state.heap.get? a) : toldM n fa fn ts pr tf ex g = (hookM n fa fn ts pr tf ex).obs state := by
  obtain rfl : g = state.heap.get? := funext same
  rfl
end Cl
namespace L2
open PySem PySem.Spec PyProof.Rows
inductive CapP : List Pattern → List Str → Prop
  | nil : CapP [] []
  | cons {ps : List Pattern} {ns : List Str} {n : Str} {pos : Pos} (t : CapP ps ns) : CapP (.MatchAs none (some n) pos :: ps) (n :: ns)
inductive Capt (X : Cx) : List Str → List Nat → Prop
  | nil : Capt X [] []
  | cons {ns : List Str} {is : List Nat} {n : Str} {i : Nat} (hi : X.N[i]? = some n) (hx : Loc X.env.scope n) (hf : X.fn n = true ∨ X.env.scope.names.lookup n = some .local) (t : Capt X ns is) : Capt X (n :: ns) (i :: is)
theorem CapP.length : ∀ {ps : List Pattern} {ns : List Str}, CapP ps ns → ps.length = ns.length
  | _, _, .nil => rfl
  | _, _, .cons t => by rw [List.length_cons, List.length_cons, t.length]
theorem Capt.length {X : Cx} : ∀ {ns : List Str} {is : List Nat}, Capt X ns is → ns.length = is.length
  | _, _, .nil => rfl
  | _, _, .cons _ _ _ t => by rw [List.length_cons, List.length_cons, t.length]
end L2
namespace Cl
open PySem L2
end Cl
namespace L2
open PySem PySem.Spec PyProof.Rows
end L2
namespace Cl
open PySem L2
end Cl
namespace Cl
open PySem L2
end Cl
namespace Cl
open PySem L2
mutual
def toDD : Nat → S → M D
  | _, .val d => M.pure d
  | 0, .obj _ => M.stuck
  | n + 1, .obj k => fun st => match st[k]? with
    | some (.frz d) => some (.ok d, st)
    | some (.lst l) => match toDDs n l st with
      | some (.ok ds, st1) => match st1[k]? with
        | some (.lst l') => match frzd l' st1 with
          | some ds' => some (.ok (.lst ds'), st1.set k (.frz (.lst ds')))
          | none => none
        | _ => none
      | _ => none
    | _ => none
def toDDs : Nat → List S → M (List D)
  | _, [] => M.pure []
  | n, d :: r => (toDD n d).bind fun x => (toDDs n r).bind fun xs => M.pure (x :: xs)
def frzd : List S → List O → Option (List D)
  | [], _ => some []
  | .val d :: r, st => (frzd r st).map (d :: ·)
  | .obj k :: r, st => match st[k]? with
    | some (.frz d) => (frzd r st).map (d :: ·)
    | _ => none
end
@[simp] def eFrzD (a : ME) : ME := fun sl => (a sl).bind fun x => (toDD 4 x).bind fun d => M.pure (.val d)
end Cl
namespace Cl
open PySem L2
@[simp] def sPar3 (i j l : Nat) (a : MA) : MS := sBind a fun ss sl st => match ss with
  | [x, y, z] => some (.nx, ((sl.set i (some x)).set j (some y)).set l (some z), st)
  | _ => none
end Cl
namespace Cl
open PySem L2
end Cl
namespace Cl
open PySem L2
/-- a value that holds no object -/
@[simp] def flatD : D → Bool
  | .non => true
  | .bl _ => true
  | .int _ => true
  | .str _ => true
  | _ => false
def viewS (st : List O) (o : Option S) : Option S := match o with
  | some s => (deepD 6 st s).map S.val
  | none => none
def viewSl (st : List O) (sl : Sl) : Sl := sl.map (viewS st)
section
variable {K : PySem.W.Frag} {mg : Str → Option Value} {B F : Hp} {rho : List Addr} {st : List O} {H : Hp}
theorem Slots.view {s : St} {sl : Sl} (c : Core K mg B F rho st H) (S' : Slots K mg F rho s sl) : Slots K mg (shut F rho H) [] s (viewSl st sl) := by
  refine ⟨by unfold viewSl; rw [List.length_map]; exact S'.len, fun i d q => ?_⟩
  unfold viewSl at q
  rw [List.getElem?_map] at q
  match e : sl[i]? with
  | none => rw [e] at q; cases q
  | some none => rw [e] at q; cases q
  | some (some z) =>
    rw [e] at q
    have q : (deepD 6 st z).map S.val = some d := Option.some.inj q
    obtain ⟨d', h1, rfl⟩ := Option.map_eq_some_iff.mp q
    obtain ⟨v, hv, r⟩ := S'.get i z e
    exact ⟨v, hv, .val (deep_ok c 6 r h1)⟩
end
end Cl
namespace L2N
open PySem PySem.Spec PyProof.Rows L2
/-- an exception without context is one -/
theorem XE.any {X : Cx} {W : WX} {u : Value} {s' : Shared} (x : L2N.XE X W u s') : L2.XE X W u s' := by
  obtain ⟨a, B, sI, pins, σ, H, cls, d, e, I, nb, up, sky, r⟩ := x
  refine ⟨a, B, sI, pins, σ, H, cls, d, e, I, nb, up, ?_, r⟩
  rcases sky with ⟨h1, h2, h3, oe, vs, h4, h5, h6⟩ | ⟨h1, h2, h3, oe, vs, T, oT, ts, h4, h5, h6⟩ | ⟨h1, h2, h3, oe, vs, T, oT, ts, h4, h5, h6⟩
  · exact .inl ⟨h1, h2, h3, oe, vs, h4, h5.zc, h6⟩
  · exact .inr (.inl ⟨h1, h2, h3, oe, vs, T, oT, ts, h4, h5.zc, h6⟩)
  · exact .inr (.inr ⟨h1, h2, h3, oe, vs, T, oT, ts, h4, h5.zc, h6⟩)
theorem Takes.of {X : Cx} {W : WX} (t : L2.Takes X W) : L2N.Takes X W := fun u s' x => t u s' x.any
end L2N
namespace L2N
open PySem PySem.Spec PyProof.Rows L2
theorem CX.any {P : Program} {w : World} {outer : List Env} {H : Hp} {s : Shared} {E : XK} {u : Value} {s' : Shared} (x : L2N.CX P w outer H s E u s') : L2.CX P w outer H s E u s' := by
  obtain ⟨a, B, H', cls, d, e, ⟨h1, h2, h3, oe, vs, T, oT, ts, h4, h5, h6⟩, r⟩ := x
  exact ⟨a, B, H', cls, d, e, ⟨h1, h2, h3, oe, vs, T, oT, ts, h4, h5.zc, h6⟩, r⟩
end L2N
namespace Cl
open PySem L2
section
variable {X : Cx} {pins : List (Addr × Obj)} {σ : L2.St} {H : Hp} {s : Shared}
theorem lam_new2 {c P : Addr} {params : Arguments} {body : Expr} {scope : Scope} {pos : Pos} {E : Value → Shared → Prop} {Q : Value → Shared → Prop} (I : Inv X pins σ H s) (TB : LamX.TabB X.base X.mg c P) (hcode : X.env.code = .ref c)
    (hT : LamX.TabS H P (X.env.qual ++ "<lambda>")) (hdef : defaultsOf params X.env = ([], [])) (hfree : ∀ y ∈ scope.names, y.2 = .free → ∃ c, X.env.cells.lookup y.1 = some c)
    (h : ∀ (f c' : Addr) (pm ctv : Value) (H1 : Hp) (s' : Shared), Inv X pins σ H1 s' → (∀ b o, b ≠ P → H b = some o → H1 b = some o) → LamX.TabS H1 P (X.env.qual ++ "<lambda>") →
      s'.heap.get? f = some (PySem.W.kla_obj "<lambda>" (X.env.qual ++ "<lambda>") params body scope (cloFrom X.env.cells scope.names []) pm c' ctv) → H1 f = none → f ∉ frs X.stack → H1 c' = some (LamX.CodeO c' (X.env.qual ++ "<lambda>")) → Q (.ref f) s') :
    wpAny (model X.prog X.w) X.A (eval (.Lambda params body scope pos) X.env) Q E s := by
  obtain ⟨ps, hP, ht, ha⟩ := hT
  refine PySem.W.kla_eval hdef ?_
  have bP : s.heap.BuiltinsAt X.mg P := TB.bm.keeps I.bk
  have hP' : s.heap.get? P = some { cls := .none, data := .fields ps } := I.hok P _ hP
  have nofr : ∀ f, s.heap.objs.size ≤ f → f ∉ frs X.stack := fun f hf z => by
    rcases List.mem_cons.mp (I.stkSub _ z) with e | e
    · have h1 := I.lt
      rw [← e] at h1
      exact Nat.lt_irrefl _ (Nat.lt_of_lt_of_le h1 hf)
    · exact I.nofs hf e
  cases hc : codeAmong pos ps.toList with
  | none =>
    refine PySem.W.kla_makeFunction (mg := X.mg) (c := c) (P := P) (ps := ps) (closure_ok hfree) I.ok.glob (I.mod.glob.keeps I.bk) hcode (TB.code.keeps I.bk) hP' ht hc TB.gP bP fun c' ctv h' tk hx hge hlt hrec htb => ?_
    obtain ⟨c2, oc, vs, t, e2, hoc, hd, hv⟩ := hrec
    cases e2
    have nC : H c' = none := I.hok.fresh hge
    have I1 := LamX.inv_table (t' := tk) (more := #[rawInt pos.line, rawInt pos.col, .ref c']) (h' := h'.push (PySem.W.kla_obj "<lambda>" (X.env.qual ++ "<lambda>") params body scope (cloFrom X.env.cells scope.names []) ((X.mg "__name__").getD .none) c' ctv)) I hP
      (fun b o hb e => Heap.get?_push_of_some _ (hx b o hb e)) (Heap.get?_push_of_some _ htb) hge ⟨oc, vs, t, Heap.get?_push_of_some _ hoc, hd, hv⟩
    have eL : (ps ++ #[rawInt pos.line, rawInt pos.col, .ref c']).toList = ps.toList ++ [rawInt pos.line, rawInt pos.col, .ref c'] := by simp
    have keep : ∀ b o, b ≠ P → H b = some o → upd (upd H P (.tbl (ps ++ #[rawInt pos.line, rawInt pos.col, .ref c']))) c' (LamX.CodeO c' (X.env.qual ++ "<lambda>")) b = some o := fun b o nb e => by
      rw [upd_ne (ne_of_none e nC), upd_ne nb]; exact e
    refine h h'.objs.size c' ((X.mg "__name__").getD .none) ctv _ _ I1 keep ⟨_, by rw [upd_ne (ne_of_none hP nC), upd_same], by rw [eL]; exact PySem.TriplesOk_snoc _ _ _ _ ht, fun p' cv hcv => ?_⟩ (Heap.get?_push_size _ rfl) ?_ (nofr _ (Nat.le_trans hge (Nat.le_of_lt hlt))) upd_same
    · rw [eL] at hcv
      rcases LamX.among_app _ ht hcv with z | z
      · obtain ⟨c0, e1, e2⟩ := ha p' cv z
        exact ⟨c0, e1, keep _ _ (fun q => by rw [q, hP] at e2; cases e2) e2⟩
      · exact ⟨c', z, upd_same⟩
    · have hsz : s.heap.objs.size ≤ h'.objs.size := Nat.le_trans hge (Nat.le_of_lt hlt)
      rw [upd_ne (Nat.ne_of_gt hlt), upd_ne (Nat.ne_of_gt (Nat.lt_of_lt_of_le (Heap.lt_size hP') hsz))]
      exact I.hok.fresh hsz
  | some cv =>
    obtain ⟨c', e, hco⟩ := ha pos cv hc
    subst e
    refine PySem.W.kla_makeFunctionHit (mg := X.mg) (c := c) (P := P) (ps := ps) (closure_ok hfree) I.ok.glob (I.mod.glob.keeps I.bk) hcode (TB.code.keeps I.bk) hP' ht hc bP fun ctv h' tk hx hsz => ?_
    have I1 : Inv X pins σ H { s with heap := h'.push (PySem.W.kla_obj "<lambda>" (X.env.qual ++ "<lambda>") params body scope (cloFrom X.env.cells scope.names []) ((X.mg "__name__").getD .none) c' ctv), toks := tk } := I.kept fun b o e => Heap.get?_push_of_some _ (hx b o e)
    exact h h'.objs.size c' ((X.mg "__name__").getD .none) ctv H _ I1 (fun _ _ _ e => e) ⟨ps, hP, ht, ha⟩ (Heap.get?_push_size _ rfl) (I.hok.fresh hsz) (nofr _ hsz) hco
end
/-- value: None; error: what is told of it -/
def eErr (told : XD → Option D) (f : ME) : ME := fun sl st => match f sl st with
  | some (.ok _, st') => some (.ok (.val .non), st')
  | some (.error x, st') => (told x).map fun d => (.ok (.val d), st')
  | none => none
/-- what the def makes of the lambda's reading -/
def TErr (K : PySem.W.Frag) (mg : Str → Option Value) (B : Hp) (told : XD → Option D) : (XK → Hp → VK → Prop) → Hp → VK → Prop := fun tl H Q =>
  tl (fun cls d H' => ∃ F rho st x dd, Core K mg B F rho st H' ∧ XRep K mg F cls d x ∧ told x = some dd ∧ ∀ F' rho' H'' v, Same F F' → Pre rho rho' → Core K mg B F' rho' st H'' → Rep K mg F' v dd → Q v H'') H (fun _ H' => Q .non H')
end Cl
namespace L2
open PySem PySem.Spec PyProof.Rows
section
variable {X : Cx}
def rCntF (K : PySem.W.Frag) : V → List V → Hp → VK → Prop := fun x xs H Q => ∃ (a : Addr) (ys : List V) (y : V), x = V.ref a ∧ xs = [y] ∧ SqL K H a ys ∧ flatV y = true ∧ ys.all flatV = true ∧ Q (.int ((ys.countP fun z => eqV z y) : Nat)) H
theorem cntF_eq {y : V} : ∀ {ys : List V} {us : List Value}, Vals ys us → ys.all flatV = true → us.countP (eqU y) = ys.countP fun z => eqV z y
  | _, _, .nil, _ => rfl
  | _, _, .cons r t, h => by
    rw [List.all_cons] at h
    obtain ⟨h1, h2⟩ := Bool.and_eq_true_iff.mp h
    rw [List.countP_cons, List.countP_cons, cntF_eq t h2, eqU_of r h1]
theorem mt_cntF : MtR X "list.count" (rCntF X.K) := by
  intro pins s σ H x xs v us Q I rx rxs h
  obtain ⟨p, ys, y, rfl, rfl, hs, fy, fys, q⟩ := h
  cases rx
  cases rxs with
  | cons ry rt =>
    rename_i uy ut
    cases rt
    obtain ⟨its, rv, ⟨⟨cls, dd, data, sl⟩, n, ho, hc, hdn, hd⟩, hlen⟩ := I.list hs
    simp only at hc hd
    subst hc hd
    refine call_meets PySem.F.slot_list_count ⟨_, ho, rfl⟩ PySem.F.entry_list_count (PySem.F.args_list_count_2 _ _)
      (SeqAt.list_countAt p its.toArray n dd sl uy (eqU y)) ⟨ho, fun u' hu' => mem_eqAt ry fy rv fys u' (by simpa using hu'), ?_⟩
    have ec : its.toArray.toList.countP (eqU y) = ys.countP fun z => eqV z y := cntF_eq rv fys
    refine ⟨.int ((ys.countP fun z => eqV z y) : Nat), H, I.tok _, ⟨s.toks, ?_⟩, q⟩
    show Value.int ((its.toArray.toList.countP (eqU y) : Nat) : Int) s.toks = Value.int (((ys.countP fun z => eqV z y) : Nat) : Int) s.toks
    rw [ec]
end
/-- isinstance(e, c), e the exception that the suite holds, with a dict or without -/
def rIsX (K : PySem.W.Frag) (D a : Addr) (d : Option Addr) : List V → Hp → VK → Prop := fun xs H Q => (∀ dd, d = some dd → ∃ fs, H dd = some (.xd fs)) ∧ ∃ (c : V) (cv : Value) (b : Bool), xs = [.ref a, c] ∧ (∀ u, RelV c u → u = cv) ∧ PySem.W.kitOne K (.ref D) cv = some b ∧ Q (.bl b) H
theorem call_isX {X : Cx} {a D : Addr} {d : Option Addr} {oe : Obj} {pn : List (Addr × Obj)} (C : ExcC X.K D) (hz : Zc (.ref D) d oe) (hf : ∃ vs, oe.data = .fields vs) : CallR (X.suite a ((a, oe) :: pn)) (.builtin "isinstance") (rIsX X.K D a d) := by
  intro pins s σ H xs us Q I r h
  obtain ⟨hd, c, cv, b, rfl, hcv, e, q⟩ := h
  cases r with
  | cons rx rr =>
    cases rr with
    | cons rt rr =>
      cases rr
      cases rx
      have ec := hcv _ rt
      subst ec
      obtain ⟨hget, _⟩ := I.pin (a, oe) (List.mem_append.mpr (.inl List.mem_cons_self))
      obtain ⟨vs, hv⟩ := hf
      have J : ∃ od, PySem.W.InstAt s.heap a oe D od := by
        obtain ⟨h1, h2⟩ := hz
        cases d with
        | none => exact ⟨none, hget, h1, by unfold PySem.W.notCls; rw [hv] <;> rfl, by rw [h2]; trivial⟩
        | some dd =>
          obtain ⟨fs, ea⟩ := hd dd rfl
          have hx : ObjOk X.prog X.w H s.heap dd (.xd fs) := I.hok dd _ ea
          obtain ⟨mA, hns, hr⟩ := hx
          obtain ⟨od, ho, hl⟩ := lookIn_ns hns
          exact ⟨some od, hget, h1, by unfold PySem.W.notCls; rw [hv] <;> rfl, by rw [h2]; exact ho⟩
      obtain ⟨od, J⟩ := J
      exact PySem.W.kia_one (PySem.W.kitx_exc (by obtain ⟨cd, hc, _⟩ := PySem.W.any_some C.hd; rw [hc]; rfl) C.hg C.hk C.hs C.ha C.hn C.ht C.hm) I.kIn J e (fun z => nomatch z) fun tk => ⟨.bl b, H, I.kept (t' := tk) fun _ _ z => z, rfl, q⟩
end L2
namespace Cl
open PySem L2
section
variable {K : PySem.W.Frag} {mg : Str → Option Value}
@[simp] def blsOf : List D → Option (List Bool)
  | [] => some []
  | .bl b :: r => (blsOf r).map (b :: ·)
  | _ => none
theorem bls_ok {F : Hp} : ∀ {vs : List V} {ds : List D} {bs : List Bool}, Reps K mg F vs ds → blsOf ds = some bs → vs = bs.map V.bl
  | _, _, _, .nil, h => by cases h; rfl
  | _, _, _, .cons (d := d) r t, h => by
    cases r with
    | bl b =>
      obtain ⟨bs', h1, rfl⟩ := Option.map_eq_some_iff.mp h
      rw [bls_ok t h1]; rfl
    | _ => cases h
theorem bls_cnt (b : Bool) : ∀ bs : List Bool, ((bs.map V.bl).countP fun z => eqV z (.bl b)) = bs.count b
  | [] => rfl
  | c :: r => by
    rw [List.map_cons, List.countP_cons, bls_cnt b r, List.count_cons]
    cases c <;> cases b <;> rfl
/-- xs.count(b), a list of bools -/
def gCntB : S → List S → M S
  | x, [.val (.bl b)] => fun st => match ((lstOf x st).bind datas).bind blsOf with
    | some bs => ok1 (.int ((bs.count b : Nat) : Int)) st
    | none => none
  | _, _ => M.stuck
theorem ms_cntB : MtS K mg (rCntF K) gCntB := by
  intro W B F rho st H x vs dx ds Q c rx rs h
  cases rs with
  | nil => exact h.elim
  | @cons _ d0 _ _ r t =>
    cases t with
    | cons _ _ => cases d0 <;> rename_i d0 <;> (try exact h.elim) <;> cases d0 <;> exact h.elim
    | nil =>
      cases r with
      | obj _ => exact h.elim
      | val r =>
        cases r with
        | bl b =>
          simp only [gCntB] at h
          match e : ((lstOf dx st).bind datas).bind blsOf with
          | none => rw [e] at h; exact h.elim
          | some bs =>
            rw [e] at h
            obtain ⟨ds, e1, e2⟩ := Option.bind_eq_some_iff.mp e
            obtain ⟨ss, h1, h2⟩ := Option.bind_eq_some_iff.mp e1
            obtain ⟨a, us, rfl, hH, rr⟩ := lst_at c rx h1
            have eu := bls_ok (rr.datas h2) e2
            subst eu
            refine ⟨a, _, .bl b, rfl, rfl, SqL.of hH, rfl, by rw [List.all_map]; exact List.all_eq_true.mpr fun _ _ => rfl, ?_⟩
            rw [bls_cnt]
            exact h.done c _ (.val (.int _))
        | _ => exact h.elim
end
/-- slot i holds the error at a -/
def atE (i : Nat) (a : Addr) (sl : Sl) : Bool := match sl[i]? with
  | some (some (.val (.vv (.ref b)))) => b == a
  | _ => false
def eIsX (i : Nat) (a : Addr) (b : Bool) : ME := fun sl st => bif atE i a sl then some (.ok (.val (.bl b)), st) else none
/-- the attributes of the error classes -/
def fldL : List (Str × Str) := [("SyntaxFault", "line"), ("SyntaxFault", "column"), ("CheckFault", "reason"), ("CheckFault", "line"), ("CheckFault", "column"), ("InvalidCode", "place"), ("InvalidOperation", "place")]
def fldB (n f : Str) : Bool := fldL.any fun p => p.1 == n && p.2 == f
theorem fldB_mem {n f : Str} (h : fldB n f = true) : (n, f) ∈ fldL := by
  obtain ⟨p, hp, e⟩ := List.any_eq_true.mp h
  obtain ⟨e1, e2⟩ := Bool.and_eq_true_iff.mp e
  rw [← eq_of_beq e1, ← eq_of_beq e2]; exact hp
def eXf (i : Nat) (a : Addr) (x : XD) (f : Str) : ME := fun sl st => bif atE i a sl && fldB x.n f then (x.fs.lookup f).map fun d => (.ok (.val d), st) else none
@[simp] def isSc : D → Bool
  | .int _ => true
  | .str _ => true
  | .bl _ => true
  | .non => true
  | _ => false
/-- the error that the suite holds: its class and dict, told by the part that stays -/
structure ErrIn (K : PySem.W.Frag) (mg : Str → Option Value) (B : Hp) (cls : Value) (d : Option Addr) (x : XD) : Prop where
  ex : ∃ C, mg x.n = some (.ref C) ∧ cls = .ref C
  fs : (x.fs = [] ∧ d = none) ∨ ∃ dd fvs, d = some dd ∧ B dd = some (.xd fvs) ∧ ∀ F, RepF K mg F fvs x.fs
section
variable {K : PySem.W.Frag} {mg : Str → Option Value} {F F' : Hp}
theorem Rep.sc {v : V} {d : D} (r : Rep K mg F v d) (h : isSc d = true) : Rep K mg F' v d := by
  cases r with
  | int i => exact .int i
  | str s => exact .str s
  | bl b => exact .bl b
  | non => exact .non
  | _ => cases h
theorem RepF.sc : ∀ {vs : List (Str × V)} {fs : List (Str × D)}, RepF K mg F vs fs → (fs.all fun p => isSc p.2) = true → RepF K mg F' vs fs
  | _, _, .nil, _ => .nil
  | _, _, .cons r t, h => by
    rw [List.all_cons] at h
    obtain ⟨h1, h2⟩ := Bool.and_eq_true_iff.mp h
    exact .cons (r.sc h1) (t.sc h2)
theorem RepF.look {f : Str} {d : D} : ∀ {vs : List (Str × V)} {fs : List (Str × D)}, RepF K mg F vs fs → fs.lookup f = some d → ∃ v, vs.lookup f = some v ∧ Rep K mg F v d
  | _, _, .nil, h => by cases h
  | _, _, .cons (f := g) r t, h => by
    rw [List.lookup_cons] at h ⊢
    cases e : f == g with
    | true => rw [e] at h; cases h; exact ⟨_, rfl, r⟩
    | false => rw [e] at h; exact t.look h
theorem atE_ok {i : Nat} {a : Addr} {rho : List Addr} {s : St} {sl : Sl} (S : Slots K mg F rho s sl) (h : atE i a sl = true) : s[i]? = some (some (.ref a)) := by
  unfold atE at h
  split at h
  · rename_i b e
    obtain ⟨v, h1, h2⟩ := S.get i _ e
    have eb : b = a := by simpa using h
    subst eb
    cases h2 with
    | val r =>
      cases r
      exact h1
  · cases h
end
section
variable {X : Cx} {B : Hp} {W : WX} {a : Addr} {oe : Obj} {pn : List (Addr × Obj)} {cls : Value} {d : Option Addr} {x : XD} {i : Nat} {en cn fn : Str} {p p2 p3 pos : Pos}
/-- isinstance(e, C) -/
theorem qe_isX {b : Bool} {c : V} {cv : Value} (hz : Zc cls d oe) (hf : ∃ vs, oe.data = .fields vs) (hE : ErrIn X.K X.mg B cls d x) (T : ∀ C, X.mg x.n = some (.ref C) → ExcC X.K C ∧ PySem.W.kitOne X.K (.ref C) cv = some b)
    (hi : X.N[i]? = some en) (hv : Vis X.env.scope en) (hc : PE (X.suite a ((a, oe) :: pn)) (.Name cn p3) (fun σ H Q => Q c H)) (hcv : ∀ u, RelV c u → u = cv) (hm : X.mg "isinstance" = none) (hg : Gl X "isinstance" := by rfl)
    (hdb : (en == ("__debug__" : Str)) = false := by decide) (hcd : (en == ("__classdict__" : Str)) = false := by decide) :
    QE (X.suite a ((a, oe) :: pn)) B W (.Call (.Name "isinstance" p) [.Name en p2, .Name cn p3] [] pos) (eIsX i a b) := by
  obtain ⟨C, hC, rfl⟩ := hE.ex
  obtain ⟨TC, hk⟩ := T C hC
  refine PEimp (pe_callB (X := X.suite a ((a, oe) :: pn)) (call_isX TC hz hf) hg hm (by decide +kernel) (pa_cons (pe_var (i := i) hi hv hdb hcd) (pa_cons hc pa_nil))) fun s H Q q => ?_
  obtain ⟨F, rho, sl, st, co, S', h⟩ := q
  unfold eIsX at h
  cases e : atE i a sl with
  | false => rw [e] at h; exact h.elim
  | true =>
    rw [e] at h
    refine ⟨_, atE_ok S' e, fun dd hd => ?_, c, cv, b, rfl, hcv, hk, h.done co _ (.val (.bl _))⟩
    rcases hE.fs with ⟨_, z⟩ | ⟨dd', fvs, z, hB, _⟩
    · rw [z] at hd; cases hd
    · rw [z] at hd; cases hd
      exact ⟨fvs, co.frame _ _ hB⟩
/-- e.f -/
theorem qe_xf (hz : Zc cls d oe) (hf : ∃ vs, oe.data = .fields vs) (hE : ErrIn X.K X.mg B cls d x) (T : ∀ C, X.mg x.n = some (.ref C) → XfC X.K C ∧ (fldB x.n fn = true → PySem.W.findIn X.K (.ref C) fn = some none))
    (hi : X.N[i]? = some en) (hv : Vis X.env.scope en) (hb : attributeBase (.Name en p) fn X.env (eval (.Name en p) X.env) = eval (.Name en p) X.env := by rfl)
    (hdb : (en == ("__debug__" : Str)) = false := by decide) (hcd : (en == ("__classdict__" : Str)) = false := by decide) :
    QE (X.suite a ((a, oe) :: pn)) B W (.Attribute (.Name en p) fn pos) (eXf i a x fn) := by
  obtain ⟨C, hC, rfl⟩ := hE.ex
  obtain ⟨TC, hk⟩ := T C hC
  cases eb : fldB x.n fn with
  | false =>
    refine ⟨fun pins s σ H Q I q => ?_⟩
    obtain ⟨F, rho, sl, st, co, S', h⟩ := q
    unfold eXf at h
    rw [eb, Bool.and_false] at h
    exact h.elim
  | true =>
  refine PEimp (pe_xf TC (hk eb) hz hf (pe_var (X := X.suite a ((a, oe) :: pn)) (i := i) hi hv hdb hcd) hb) fun s H Q q => ?_
  obtain ⟨F, rho, sl, st, co, S', h⟩ := q
  unfold eXf at h
  rw [eb, Bool.and_true] at h
  cases e : atE i a sl with
  | false => rw [e] at h; exact h.elim
  | true =>
    rw [e] at h
    dsimp only [cond_true] at h
    cases e2 : x.fs.lookup fn with
    | none => rw [e2] at h; exact h.elim
    | some dv =>
      rw [e2] at h
      rcases hE.fs with ⟨z, _⟩ | ⟨dd, fvs, z, hB, rf⟩
      · rw [z] at e2; cases e2
      · obtain ⟨v, h1, h2⟩ := (rf F).look e2
        exact ⟨_, atE_ok S' e, rfl, rfl, dd, fvs, v, z, co.frame _ _ hB, h1, h.done co _ (.val h2)⟩
end
end Cl
namespace Cl
open PySem L2
/-- what the suite hands back, as data -/
@[simp] def exitT (r : Option (Fl × Sl × List O)) : Option D := match r with
  | some (.rt s, _, st) => deepD 6 st s
  | _ => none
/-- the suite's slots: the error at slot 1, nothing else -/
def slE (n : Nat) (a : Addr) : Sl := (List.replicate n (none : Option S)).set 1 (some (.val (.vv (.ref a))))
theorem takes_len {X : Cx} {W W' : WX} (t : L2.Takes X W) (h : ∀ c d σ H, σ.length = X.N.length → W' c d σ H → W c d σ H) : L2.Takes X W' := fun u s' ⟨a, B, sI, pins, σ, H, cls, d, e, I, nb, up, sky, na, os, ag, w⟩ =>
  t u s' ⟨a, B, sI, pins, σ, H, cls, d, e, I, nb, up, sky, na, os, ag, h _ _ _ _ I.len w⟩
def both (F G : Hp) : Hp := fun b => match F b with
  | some o => some o
  | none => G b
theorem both_yes {F G : Hp} {b : Addr} {o : HO} (h : F b = some o) : both F G b = some o := by unfold both; rw [h]
theorem both_no {F G : Hp} {b : Addr} (h : F b = none) : both F G b = G b := by unfold both; rw [h]
section
variable {K : PySem.W.Frag} {mg : Str → Option Value} {B F F' : Hp} {rho rho' : List Addr} {st st' : List O} {H H' : Hp}
/-- behind a run that began with nothing frozen -/
theorem Core.back {v : V} {s : S} {dd : D} (c : Core K mg B F rho st H) (c1 : Core K mg (less K H fun _ => none) F' rho' st' H') (r : RepS K mg F' rho' v s) (h : deepD 6 st' s = some dd) :
    ∃ F2, Same F F2 ∧ Core K mg B F2 rho st H' ∧ Rep K mg F2 v dd := by
  have all : SameX K H H' := c1.all (fun _ _ z => by cases z) (fun _ _ z => by cases z)
  have fH : ∀ b o, F b = some o → H' b = some o := fun b o e => all b o (c.same b o e) fun ⟨q, i⟩ => by rw [(c.tabs _ _ i).2.1] at e; cases e
  have s2 : Same (shut F' rho' H') (both F (shut F' rho' H')) := fun b o e => by
    cases q : F b with
    | none => rw [both_no q]; exact e
    | some u =>
      have h1 := fH b u q
      have h2 := shut_in c1 b o e
      rw [h1] at h2; rw [both_yes q]; exact h2
  refine ⟨both F (shut F' rho' H'), fun b o e => both_yes e, ?_, (deep_ok c1 6 r h).mono s2⟩
  refine c.grow (fun b o e => both_yes e) (fun b o e => ?_) all (fun b e => ?_) (fun P q i => ?_)
  · cases q : F b with
    | none => rw [both_no q] at e; exact shut_in c1 b o e
    | some u => rw [both_yes q] at e; exact fH b o (q.trans e)
  · cases q : F b with
    | none =>
      rw [both_no q] at e
      rcases less_fresh (shut_tb c1) (shut_apart c1) b e with z | z
      · exact absurd rfl z
      · exact .inr z
    | some u => exact .inl fun z => by cases z
  · have h1 := (c.tabs P q i).2.1
    obtain ⟨h2, h3⟩ := shut_tb c1 P q i
    exact ⟨by rw [both_no h1]; exact h2, h3⟩
theorem slE_ok {n : Nat} {σ : St} (hl : σ.length = n) (a : Addr) : Slots K mg F rho (σ.set 1 (some (.ref a))) (slE n a) := by
  refine ⟨by simp [slE, hl], fun i d h => ?_⟩
  unfold slE at h
  by_cases hi : i = 1
  · subst hi
    by_cases hn : 1 < n
    · rw [List.getElem?_set_self (by simpa using hn)] at h
      cases h
      exact ⟨_, List.getElem?_set_self (by rw [hl]; exact hn), .val (.vv _)⟩
    · rw [List.getElem?_eq_none (by simp; omega)] at h; cases h
  · rw [List.getElem?_set_ne (Ne.symm hi)] at h
    rw [List.getElem?_replicate] at h
    split at h <;> cases h
end
end Cl
namespace Cl
open PySem L2
/-- the error classes and their attributes -/
def errL : List Str := ["InvalidTick", "InvalidCount", "UnknownValve", "TooLong", "DifferentValves", "Contradiction", "QueueFull", "InvalidName", "UnknownName", "TooManyStarts", "SyntaxFault", "CheckFault", "InvalidCode", "InvalidOperation"]
/-- the class at A: its bases are GardenError's, at G -/
def clsB (K : PySem.W.Frag) (A G : Addr) : Bool := match K.lookup A with
  | some ⟨.type t, _, .cls cd, _⟩ => t == "type" && (cd.hasDict && decide (cd.mro = [.ref A, .ref G, .type "ValueError", .type "Exception", .type "BaseException", .type "object"]))
  | _ => false
def gclsB (K : PySem.W.Frag) (G : Addr) : Bool := match K.lookup G with
  | some ⟨.type t, _, .cls cd, _⟩ => t == "type" && (cd.hasDict && decide (cd.mro = [.ref G, .type "ValueError", .type "Exception", .type "BaseException", .type "object"]))
  | _ => false
/-- all that isinstance and the attributes of a caught error ask -/
def exoB (K : PySem.W.Frag) (G A : Addr) : Bool :=
  clsB K A G && (He.eqO (PySem.W.findIn K (.ref A) "__getattribute__") (some (some (.builtin "BaseException.__getattribute__"))) && (He.eqO (PySem.W.findIn K (.ref A) "__getattr__") (some none) && He.eqO (PySem.W.findIn K (.ref A) "__class__") (some (some (.builtin "object.__class__")))))
def errsB (K : PySem.W.Frag) : Bool := He.eqO (PySem.W.specialIn K (.builtin "object.__class__") "__get__") (some (some (.builtin "getset_descriptor.__get__"))) && (decide (PySem.W.takesIn K (.builtin "object.__class__") = some true) && (gclsB K (He.ga K "GardenError") &&
  (errL.all (fun n => exoB K (He.ga K "GardenError") (He.ga K n)) && (decide ((He.ga K "GardenError" :: errL.map (He.ga K)).Nodup) && fldL.all fun p => He.eqO (PySem.W.findIn K (.ref (He.ga K p.1)) p.2) (some none)))))
structure ErrsOk (K : PySem.W.Frag) (mg : Str → Option Value) : Prop where
  g : mg "GardenError" = some (.ref (He.ga K "GardenError"))
  m : ∀ n ∈ errL, mg n = some (.ref (He.ga K n))
  b : errsB K = true
section
variable {K : PySem.W.Frag} {mg : Str → Option Value}
theorem clsB_ok {A G : Addr} (h : clsB K A G = true) : ∃ cd, PySem.W.clsIn K A = some cd ∧ cd.hasDict = true ∧ cd.mro = [.ref A, .ref G, .type "ValueError", .type "Exception", .type "BaseException", .type "object"] ∧ PySem.W.typeIn K (.ref A) = some (.type "type") := by
  unfold clsB at h
  split at h
  · rename_i t dd cd sl ho
    obtain ⟨h1, h⟩ := He.ba h
    obtain ⟨h2, h3⟩ := He.ba h
    have e1 := eq_of_beq h1
    subst e1
    refine ⟨cd, by unfold PySem.W.clsIn; rw [ho], h2, of_decide_eq_true h3, by show (K.lookup _).map (·.cls) = _; rw [ho]; rfl⟩
  · cases h
theorem gclsB_ok {G : Addr} (h : gclsB K G = true) : ∃ cd, PySem.W.clsIn K G = some cd ∧ cd.hasDict = true ∧ cd.mro = [.ref G, .type "ValueError", .type "Exception", .type "BaseException", .type "object"] ∧ PySem.W.typeIn K (.ref G) = some (.type "type") := by
  unfold gclsB at h
  split at h
  · rename_i t dd cd sl ho
    obtain ⟨h1, h⟩ := He.ba h
    obtain ⟨h2, h3⟩ := He.ba h
    have e1 := eq_of_beq h1
    subst e1
    refine ⟨cd, by unfold PySem.W.clsIn; rw [ho], h2, of_decide_eq_true h3, by show (K.lookup _).map (·.cls) = _; rw [ho]; rfl⟩
  · cases h
theorem mro_sub {A : Addr} {cd : ClassData} {l : List Value} (h : PySem.W.clsIn K A = some cd) (hl : cd.mro = l) (hne : l ≠ []) (b : Value) : PySem.W.mroIn K A b = some (l.contains b) := by
  unfold PySem.W.mroIn
  rw [h, Option.bind_some, hl, if_neg]
  intro z
  exact hne (List.isEmpty_iff.mp z)
theorem ErrsOk.at (E : ErrsOk K mg) {n : Str} (hn : n ∈ errL) {C : Addr} (hC : mg n = some (.ref C)) : ExcC K C ∧ XfC K C ∧ (∀ f, fldB n f = true → PySem.W.findIn K (.ref C) f = some none) ∧ PySem.W.kitOne K (.ref C) (.type "ValueError") = some true ∧
    PySem.W.exmOne K (.ref C) (.ref (He.ga K "GardenError")) = some true ∧ ∀ m ∈ errL, PySem.W.kitOne K (.ref C) (.ref (He.ga K m)) = some (n == m) := by
  have e := (E.m n hn).symm.trans hC
  cases e
  obtain ⟨s1, s2⟩ := He.ba E.b
  obtain ⟨s2, s3⟩ := He.ba s2
  obtain ⟨s3, s4⟩ := He.ba s3
  obtain ⟨s4, s5⟩ := He.ba s4
  obtain ⟨s5, s6⟩ := He.ba s5
  have nd := of_decide_eq_true s5
  have each : ∀ m ∈ errL, exoB K (He.ga K "GardenError") (He.ga K m) = true := fun m hm => List.all_eq_true.mp s4 m hm
  have h := each n hn
  obtain ⟨h1, h⟩ := He.ba h
  obtain ⟨h2, h⟩ := He.ba h
  obtain ⟨h3, h4⟩ := He.ba h
  obtain ⟨cd, c1, c2, c3, c4⟩ := clsB_ok h1
  obtain ⟨gd, g1, g2, g3, g4⟩ := gclsB_ok s3
  have sub := fun b => mro_sub c1 c3 (by simp) b
  have hsub : PySem.W.subIn K (.ref (He.ga K n)) (.type "BaseException") = some true := by
    show PySem.W.mroIn K _ _ = _
    rw [sub]
    rfl
  have hdct : PySem.W.hasDictIn K (He.ga K n) = true := by unfold PySem.W.hasDictIn; rw [c1]; exact c2
  refine ⟨⟨He.eqO_ok h2, He.eqO_ok h3, hsub, hdct, He.eqO_ok h4, He.eqO_ok s1, of_decide_eq_true s2, by rw [sub]; rfl⟩, ⟨He.eqO_ok h2, He.eqO_ok h3, hsub, hdct⟩, fun f hf => ?_, ?_, ?_, fun m hm => ?_⟩
  · exact He.eqO_ok (List.all_eq_true.mp s6 (n, f) (fldB_mem hf))
  · show (if (Value.ref (He.ga K n) == Value.type "ValueError") = true then some true else PySem.W.kitCls K (.ref (He.ga K n)) (.type "ValueError")) = some true
    rw [if_neg (by simp)]
    show (if PySem.W.kitMeta "ValueError" = true then PySem.W.mroIn K (He.ga K n) (.type "ValueError") else none) = some true
    rw [if_pos (by decide +kernel), sub]
    rfl
  · refine PySem.W.exm_ref (C := He.ga K "GardenError") ?_ (by unfold PySem.W.hasDictIn; rw [g1]; exact g2) g4 ?_
    · show PySem.W.mroIn K _ _ = _
      rw [mro_sub g1 g3 (by simp)]
      rfl
    · show PySem.W.mroIn K _ _ = _
      rw [sub]
      simp
  · obtain ⟨md, d1, d2, d3, d4⟩ := clsB_ok (He.ba (each m hm)).1
    show (if (Value.ref (He.ga K n) == Value.ref (He.ga K m)) = true then some true else PySem.W.kitCls K (.ref (He.ga K n)) (.ref (He.ga K m))) = some (n == m)
    by_cases hnm : n = m
    · subst hnm
      rw [if_pos (by simp)]
      simp
    · have ne : He.ga K n ≠ He.ga K m := fun z => hnm (by
        have nd2 := (List.nodup_cons.mp nd).2
        obtain ⟨i, hi, ei⟩ := List.mem_iff_getElem.mp hn
        obtain ⟨j, hj, ej⟩ := List.mem_iff_getElem.mp hm
        have e : (errL.map (He.ga K))[i]? = (errL.map (He.ga K))[j]? := by
          rw [List.getElem?_map, List.getElem?_map, List.getElem?_eq_getElem hi, List.getElem?_eq_getElem hj, ei, ej]
          exact congrArg some z
        have := (List.getElem?_inj (by rw [List.length_map]; exact hi) nd2).mp e
        subst this
        rw [← ei, ← ej])
      have neG : He.ga K m ≠ He.ga K "GardenError" := fun z => (List.nodup_cons.mp nd).1 (by rw [← z]; exact List.mem_map_of_mem hm)
      rw [if_neg (by simpa using ne)]
      show (if ((PySem.W.clsIn K (He.ga K m)).isSome && PySem.W.typeIn K (.ref (He.ga K m)) == some (.type "type")) = true then PySem.W.mroIn K (He.ga K n) (.ref (He.ga K m)) else none) = some (n == m)
      rw [if_pos (by rw [d1, d4]; rfl), sub]
      have e2 : (n == m) = false := by simpa using hnm
      rw [e2]
      have ne' : ¬ (He.ga K m = He.ga K n) := fun z => ne z.symm
      simp [ne', neG]
end
section
variable {X : Cx} {B : Hp} {W : WX} {a : Addr} {oe : Obj} {pn : List (Addr × Obj)} {cls : Value} {d : Option Addr} {x : XD} {i : Nat} {en cn fn : Str} {p p2 p3 pos : Pos}
theorem qe_isOwn (E : ErrsOk X.K X.mg) (hz : Zc cls d oe) (hf : ∃ vs, oe.data = .fields vs) (hE : ErrIn X.K X.mg B cls d x) (hn : x.n ∈ errL) (hm : X.mg "isinstance" = none)
    (hi : X.N[i]? = some en := by rfl) (hv : Vis X.env.scope en := by exact Or.inl rfl) (hc : cn ∈ errL := by decide +kernel) (hg2 : Gl X cn := by rfl) (hg : Gl X "isinstance" := by rfl)
    (hd2 : (cn == ("__debug__" : Str)) = false := by decide) (hdb : (en == ("__debug__" : Str)) = false := by decide) (hcd : (en == ("__classdict__" : Str)) = false := by decide) :
    QE (X.suite a ((a, oe) :: pn)) B W (.Call (.Name "isinstance" p) [.Name en p2, .Name cn p3] [] pos) (eIsX i a (x.n == cn)) :=
  qe_isX (c := .ref (He.ga X.K cn)) (cv := .ref (He.ga X.K cn)) hz hf hE (fun C hC => ⟨(E.at hn hC).1, (E.at hn hC).2.2.2.2.2 cn hc⟩) hi hv (pe_glob (X := X.suite a ((a, oe) :: pn)) hg2 (E.m cn hc) rfl hd2) (fun u r => r) hm hg hdb hcd
theorem qe_isVE (E : ErrsOk X.K X.mg) (hz : Zc cls d oe) (hf : ∃ vs, oe.data = .fields vs) (hE : ErrIn X.K X.mg B cls d x) (hn : x.n ∈ errL) (hm : X.mg "isinstance" = none) (hm2 : X.mg "ValueError" = none)
    (hi : X.N[i]? = some en := by rfl) (hv : Vis X.env.scope en := by exact Or.inl rfl) (hg2 : Gl X "ValueError" := by rfl) (hg : Gl X "isinstance" := by rfl)
    (hdb : (en == ("__debug__" : Str)) = false := by decide) (hcd : (en == ("__classdict__" : Str)) = false := by decide) :
    QE (X.suite a ((a, oe) :: pn)) B W (.Call (.Name "isinstance" p) [.Name en p2, .Name "ValueError" p3] [] pos) (eIsX i a true) :=
  qe_isX (c := .ty "ValueError") (cv := .type "ValueError") hz hf hE (fun C hC => ⟨(E.at hn hC).1, (E.at hn hC).2.2.2.1⟩) hi hv (pe_bltn (X := X.suite a ((a, oe) :: pn)) hg2 hm2 (by decide +kernel) rfl) (fun u r => r) hm hg hdb hcd
theorem qe_xfE (E : ErrsOk X.K X.mg) (hz : Zc cls d oe) (hf : ∃ vs, oe.data = .fields vs) (hE : ErrIn X.K X.mg B cls d x) (hn : x.n ∈ errL) (hi : X.N[i]? = some en := by rfl) (hv : Vis X.env.scope en := by exact Or.inl rfl)
    (hb : attributeBase (.Name en p) fn X.env (eval (.Name en p) X.env) = eval (.Name en p) X.env := by rfl) (hdb : (en == ("__debug__" : Str)) = false := by decide) (hcd : (en == ("__classdict__" : Str)) = false := by decide) :
    QE (X.suite a ((a, oe) :: pn)) B W (.Attribute (.Name en p) fn pos) (eXf i a x fn) :=
  qe_xf hz hf hE (fun C hC => ⟨(E.at hn hC).2.1, (E.at hn hC).2.2.1 fn⟩) hi hv hb hdb hcd
end
section
variable {X : Cx} {B : Hp} {W : WX}
theorem takes_lam {A : Around} {outer : List Env} {s : Shared} {H : Hp} {E : XK} {scope : Scope} {f c' : Addr} : Takes (LamX.lamCx X A outer s H E scope f c') (fun cls d _ H => E cls d H) :=
  L2N.Takes.of (takes_of (X := LamX.lamCx X A outer s H E scope f c') (E := E) rfl rfl rfl rfl)
end
section
variable {P : Program} {w : World} {K : PySem.W.Frag} {mg : Str → Option Value} {base : Heap} {x qual : Str} {stm : Stmt} {f : Addr} {fd : FuncData} {N ps : List Str} {k : Nat} {b : MS} {dvs : List V} {kws : List (Str × V)}
theorem fn_PL (Fn : FunD K x qual (defArgs stm) (defBody stm) (defScope stm) dvs kws f fd) (Sc : FnScope N ps (defScope stm)) (hb : BodyL P w K mg base N qual stm f fd k b) : FnOk P w K mg base (L2N.CX P w) (k + 1) f fd ps (spP K mg ps.length (asP N.length b)) := by
  obtain ⟨oc, od, dV, kV, doc, pm, an, cdv, ct, osl, rfl, lk, hcd, _, _⟩ := Fn.ex
  refine fn_of lk hcd Sc (fun vs H Q E h => ?_) (fun A outer s H vs Q E hr h => ?_)
  · obtain ⟨F, ds, e, tb, r, l, h⟩ := h
    rw [r.length]; exact l
  · obtain ⟨F, ds, e, tb, r, l, h⟩ := h
    refine ⟨_, hb cdv A outer s H E (less K H F) rfl hr, F, [], _, [], Core.start e tb, slots_start r.vals, ?_⟩
    unfold asP exitP at h
    match q : b (mkSl N.length (ds.map .val)) [] with
    | none => rw [q] at h; exact h
    | some (.nx, sl', st') =>
      rw [q] at h
      exact fun F' rho' H' s' e1 p1 c1 S1 => h F' H' e1 c1.same (c1.all e e1) c1.fresh c1.tb .non .non
    | some (.bk, sl', st') => rw [q] at h; exact h.elim
    | some (.ct, sl', st') => rw [q] at h; exact h.elim
    | some (.xc z, sl', st') =>
      rw [q] at h
      exact fun F' rho' H' s' e1 p1 c1 S1 cls dd xr => h F' H' e1 c1.same (c1.all e e1) c1.fresh c1.tb cls dd xr
    | some (.rt s, sl', st') =>
      rw [q] at h
      intro F' rho' H' s' e1 p1 c1 S1 v rv
      dsimp only at h
      match q2 : deepD 6 st' s with
      | none => rw [q2] at h; exact h.elim
      | some d =>
        rw [q2] at h
        exact h (shut F' rho' H') H' (e1.trans shut_same) (shut_in c1) (c1.all e e1) (less_fresh (shut_tb c1) (shut_apart c1)) (shut_tb c1) v (deep_ok c1 6 rv q2)
end
end Cl
namespace L2
open PySem PySem.Spec PyProof.Rows
def someP : PyData → Bool
  | .none => false
  | _ => true
def rMinD (K : PySem.W.Frag) : List V → Hp → VK → Prop := fun vs H Q => ∃ (a : Addr) (prs : List (V × PyData)) (p : PyData) (ps : List PyData), vs = [V.ref a] ∧ SqL K H a (prs.map (·.1)) ∧ (∀ y ∈ prs, Dp K H y.1 y.2) ∧ alikesB (prs.map (·.2)) = true ∧ (prs.map (·.2)).all someP = true ∧
  PyData.depthAll (prs.map (·.2)) ≤ 20 ∧ prs.map (·.2) = p :: ps ∧ ∀ z ∈ prs, z.2 = PySem.W.minD p ps → Q z.1 H
theorem minD_mem (p : PyData) : ∀ ps : List PyData, PySem.W.minD p ps ∈ p :: ps := by
  intro ps
  unfold PySem.W.minD
  induction ps generalizing p with
  | nil => exact List.mem_cons_self
  | cons q r ih =>
    rw [List.foldl_cons]
    have := ih (if PySem.W.dataLt q p then q else p)
    rcases List.mem_cons.mp this with h | h
    · rw [h]
      split
      · exact List.mem_cons_of_mem _ List.mem_cons_self
      · exact List.mem_cons_self
    · exact List.mem_cons_of_mem _ (List.mem_cons_of_mem _ h)
theorem dpAll_of {K : PySem.W.Frag} {H : Hp} : ∀ {prs : List (V × PyData)}, (∀ y ∈ prs, Dp K H y.1 y.2) → DpAll K H (prs.map (·.1)) (prs.map (·.2))
  | [], _ => .nil
  | y :: r, h => .cons (h y List.mem_cons_self) (dpAll_of fun z hz => h z (List.mem_cons_of_mem _ hz))
section
variable {X : Cx}
theorem cr_minD (hc : X.calm = true) (hu : X.A.units + 65 < cLine) : CallR X (.builtin "min") (rMinD X.K) := by
  intro pins s σ H xs us Q I r h
  obtain ⟨a, prs, p, ps, rfl, hs, hd, hal, hno, hdp, hpp, q⟩ := h
  obtain ⟨its, rv, hl, hz⟩ := I.list hs
  rw [Vals.ref1 r]
  obtain ⟨as, hr⟩ := Dp.readsAll I _ _ _ (dpAll_of hd) rv
  have al := alikes_ok hal
  have nn : ∀ x ∈ prs.map (·.2), x ≠ .none := fun x hx e => by
    have := List.all_eq_true.mp hno x hx
    rw [e] at this; cases this
  rw [hpp] at hr hdp al nn
  refine PySem.W.min_list_data (I.ok.hd hc) hl.isList hr ⟨fun x hx y hy => al x hx y hy, nn⟩ (by omega) fun i v h' tk bs hv hrd hk => ?_
  have hv' : its[i]? = some v := by simpa using hv
  have hlen := rv.length
  have hi : i < (prs.map (·.1)).length := by
    have := (List.getElem?_eq_some_iff.mp hv').1
    omega
  obtain ⟨u, hu', ru⟩ := rv.get (List.getElem?_eq_getElem hi)
  rw [hv'] at hu'
  cases hu'
  rw [List.length_map] at hi
  have e1 : (prs.map (·.1))[i] = (prs[i]).1 := by simp
  rw [e1] at ru
  have hm : prs[i] ∈ prs := List.getElem_mem hi
  obtain ⟨as2, r2⟩ := Dp.reads I _ _ _ (hd _ hm) ru
  have mm : PySem.W.minD p ps ∈ p :: ps := minD_mem p ps
  have m2 : (prs[i]).2 ∈ p :: ps := by rw [← hpp]; exact List.mem_map_of_mem hm
  have ee : (prs[i]).2 = PySem.W.minD p ps := PySem.W.alike_unique _ _ _ _ _ (al _ m2 _ mm) (PySem.W.reads_keeps hk r2) hrd
  exact ⟨(prs[i]).1, H, I.kept (t' := tk) hk, ru, q _ hm ee⟩
end
end L2
namespace Cl
open PySem L2
section
variable {K : PySem.W.Frag} {mg : Str → Option Value}
def gMinD (x : S) : M S := fun st => match (lstOf x st).bind datas with
  | some ds => match toPs ds with
    | some (p :: ps) => if alikesB (p :: ps) = true ∧ (p :: ps).all someP = true ∧ PyData.depthAll (p :: ps) ≤ 20 then (match ds.filter (fun d => PyData.eqv (encD d) (PySem.W.minD p ps)) with
      | [d] => ok1 d st
      | _ => none) else none
    | _ => none
  | none => none
theorem cs_minD : CallS K mg (rMinD K) (g1 gMinD) := cs_one fun W B F rho st H x dx Q c rx h => by
  unfold gMinD at h
  match e : (lstOf dx st).bind datas with
  | none => rw [e] at h; exact h.elim
  | some ds =>
    rw [e] at h
    dsimp only at h
    match e2 : toPs ds with
    | none => rw [e2] at h; exact h.elim
    | some [] => rw [e2] at h; exact h.elim
    | some (p :: ps) =>
      rw [e2] at h
      dsimp only at h
      split at h
      · rename_i hc
        split at h
        · rename_i d hf
          obtain ⟨ss, h1, h2⟩ := Option.bind_eq_some_iff.mp e
          obtain ⟨a, vs, rfl, hs, rs⟩ := lst_at c rx h1
          have rd := rs.datas h2
          obtain ⟨eP, tP⟩ := toPs_enc e2
          have hl := rd.length
          have hT1 : (vs.zip ds).map (·.1) = vs := by rw [List.map_fst_zip (by omega)]
          have hT2 : (vs.zip ds).map (·.2) = ds := by rw [List.map_snd_zip (by omega)]
          have e3 : ((vs.zip ds).map fun z => (z.1, encD z.2)).map (·.1) = vs := by rw [List.map_map]; exact hT1
          have e4 : ((vs.zip ds).map fun z => (z.1, encD z.2)).map (·.2) = p :: ps := by rw [List.map_map, eP, ← hT2, List.map_map, hT2]; rfl
          refine ⟨a, (vs.zip ds).map fun z => (z.1, encD z.2), p, ps, rfl, by rw [e3]; exact SqL.of hs, fun y hy => ?_, by rw [e4]; exact hc.1, by rw [e4]; exact hc.2.1, by rw [e4]; exact hc.2.2, e4, fun z hz hm => ?_⟩
          · obtain ⟨z, hz, rfl⟩ := List.mem_map.mp hy
            exact toP_ok c.same (rd.zip z hz) (tP _ (List.of_mem_zip hz).2)
          · obtain ⟨w, hw, rfl⟩ := List.mem_map.mp hz
            dsimp only at hm ⊢
            have hwd := (List.of_mem_zip hw).2
            have al := alikes_ok hc.1
            have mem : encD w.2 ∈ p :: ps := by rw [eP]; exact List.mem_map_of_mem hwd
            have : w.2 ∈ ds.filter (fun d => PyData.eqv (encD d) (PySem.W.minD p ps)) := List.mem_filter.mpr ⟨hwd, by rw [← hm]; exact PySem.W.eqv_refl_alike _ (al _ mem _ mem)⟩
            rw [hf, List.mem_singleton] at this
            have rw' := rd.zip w hw
            rw [this] at rw'
            exact h.done c _ (.val rw')
        · exact h.elim
      · exact h.elim
end
end Cl
namespace L2
open PySem PySem.Spec PyProof.Rows
end L2
namespace Cl
open PySem L2
end Cl
namespace Cl
open PySem L2
end Cl
namespace PySem
end PySem
namespace L2
open PySem PySem.Spec PyProof.Rows
end L2
namespace Cl
open PySem L2
end Cl
namespace L2
open PySem PySem.Spec PyProof.Rows GenW
end L2
namespace Cl
open PySem L2
section
variable (K : PySem.W.Frag) (mg : Str → Option Value) (B : Hp)
def PostGn (W : WX) (N : GEnds) (F : Hp) (rho : List Addr) (m : Option (Fl × Sl × List O × List D)) : Prop :=
  match m with
  | none => False
  | some (fl, sl', st', out) => ∀ F' rho' H' s' ys, Same F F' → Pre rho rho' → Core K mg B F' rho' st' H' → Slots K mg F' rho' s' sl' → Reps K mg F' ys out →
    match fl with
    | .nx => N.nx ys s' H'
    | .bk => N.bk ys s' H'
    | .ct => N.ct ys s' H'
    | .rt d => ∀ v, RepS K mg F' rho' v d → N.rt ys v H'
    | .xc x => ∀ cls dd, XRep K mg F' cls dd x → W cls dd s' H'
end
section
variable {K : PySem.W.Frag} {mg : Str → Option Value} {B F F' : Hp} {rho rho' : List Addr} {W : WX} {N : GEnds}
theorem PostGn.mono {m : Option (Fl × Sl × List O × List D)} (h : PostGn K mg B W N F rho m) (e : Same F F') (p : Pre rho rho') : PostGn K mg B W N F' rho' m := by
  match m, h with
  | some (fl, sl', st', out), h => exact fun F1 r1 H1 s1 ys e1 p1 => h F1 r1 H1 s1 ys (e.trans e1) (p.trans p1)
end
end Cl
namespace Cl
open PySem L2
@[simp] def gListG (n : Nat) (f : PF) (dds : List D) (ss : List S) : M S := (toDs ss).bind fun ds => fun st => if (ds ++ dds).length = n then (match f (ds ++ dds) with
  | some (.ok (.lst l)) => some (.ok (.val (.lst l)), st)
  | _ => none) else none
@[simp] def gListGO (n : Nat) (f : PF) (dds : List D) (ss : List S) : M S := (toDs ss).bind fun ds => fun st => if (ds ++ dds).length = n then (match f (ds ++ dds) with
  | some (.ok (.lst l)) => some (.ok (.obj st.length), st ++ [.lst (l.map .val)])
  | _ => none) else none
end Cl
namespace Cl
open PySem L2
end Cl
namespace Cl
open PySem L2
section
variable {K : PySem.W.Frag} {mg : Str → Option Value} {B F : Hp} {W : WX}
theorem RepK.keys : ∀ {kvs : List (Key × V)} {ds : List (D × D)}, RepK K mg F kvs ds → kvs.map (fun p => keyD p.1) = ds.map (·.1)
  | _, _, .nil => rfl
  | _, _, .cons _ b => by rw [List.map_cons, List.map_cons, RepK.keys b]
theorem RepK.length : ∀ {kvs : List (Key × V)} {ds : List (D × D)}, RepK K mg F kvs ds → kvs.length = ds.length
  | _, _, .nil => rfl
  | _, _, .cons _ b => by rw [List.length_cons, List.length_cons, RepK.length b]
theorem RepK.append : ∀ {xs ys : List (Key × V)} {us ws : List (D × D)}, RepK K mg F xs us → RepK K mg F ys ws → RepK K mg F (xs ++ ys) (us ++ ws)
  | _, _, _, _, .nil, s => s
  | _, _, _, _, .cons r t, s => .cons r (RepK.append t s)
theorem RepK.fresh {kvs : List (Key × V)} {ds : List (D × D)} (r : RepK K mg F kvs ds) {k : Str} (h : ∀ p ∈ ds, p.1 ≠ .str k) : valV kvs (.inr k : Key) = none := by
  unfold valV
  rw [Option.map_eq_none_iff, List.find?_eq_none]
  intro q hq
  have m : keyD q.1 ∈ ds.map (·.1) := by rw [← r.keys]; exact List.mem_map_of_mem (f := fun p : Key × V => keyD p.1) hq
  obtain ⟨p, hp, e⟩ := List.mem_map.mp m
  intro z
  have z : q.1 = .inr k := by simpa using z
  rw [z] at e
  exact h p hp e
end
end Cl
namespace L2
open PySem PySem.Spec PyProof.Rows
end L2
namespace L2
open PySem PySem.Spec PyProof.Rows
end L2
namespace Cl
open PySem L2
section
variable {K : PySem.W.Frag} {mg : Str → Option Value} {F H : Hp}
theorem RepK.inv {ks : List (Key × V)} {x : D × D} {ds : List (D × D)} (h : RepK K mg F ks (x :: ds)) : ∃ k v r, ks = (k, v) :: r ∧ x.1 = keyD k ∧ Rep K mg F v x.2 ∧ RepK K mg F r ds := by
  cases h with
  | cons a b => exact ⟨_, _, _, rfl, rfl, a, b⟩
theorem keyD_inj {k j : Key} (h : keyD k = keyD j) : k = j := by
  cases k <;> cases j <;> simp only [keyD, D.int.injEq, D.str.injEq, reduceCtorEq] at h <;> rw [h]
theorem valV_in : ∀ {ls : List (Key × V)} {k : Key} {u : V}, (ls.map (·.1)).Nodup → (k, u) ∈ ls → valV ls k = some u
  | [], _, _, _, h => by cases h
  | (j, v) :: ls, k, u, nd, h => by
    rw [List.map_cons, List.nodup_cons] at nd
    rcases List.mem_cons.mp h with h | h
    · cases h
      exact valV_pos rfl
    · have ne : j ≠ k := fun z => nd.1 (by rw [z]; exact List.mem_map.mpr ⟨(k, u), h, rfl⟩)
      have ih := valV_in nd.2 h
      unfold valV at ih ⊢
      rw [List.find?_cons_of_neg (by simpa using ne)]
      exact ih
theorem RepK.nd {ks : List (Key × V)} {ds : List (D × D)} (h : RepK K mg F ks ds) (nd : (ds.map (·.1)).Nodup) : (ks.map (·.1)).Nodup := by
  rw [← h.keys] at nd
  have e : ks.map (fun p => keyD p.1) = (ks.map (·.1)).map keyD := by rw [List.map_map]; rfl
  rw [e] at nd
  exact List.Pairwise.imp (fun {a b} h z => h (congrArg keyD z)) (List.pairwise_map.mp nd)
theorem RepK.get {ks : List (Key × V)} {ds : List (D × D)} {k : Key} {d : D} (h : RepK K mg F ks ds) (nd : (ds.map (·.1)).Nodup) (m : (keyD k, d) ∈ ds) : ∃ v, valV ks k = some v ∧ Rep K mg F v d := by
  suffices hm : ∃ v, (k, v) ∈ ks ∧ Rep K mg F v d by
    obtain ⟨v, h1, h2⟩ := hm
    exact ⟨v, valV_in (h.nd nd) h1, h2⟩
  clear nd
  induction ds generalizing ks with
  | nil => cases m
  | cons x ds ih =>
    obtain ⟨j, v, r, rfl, e1, rv, t1⟩ := h.inv
    rcases List.mem_cons.mp m with rfl | m
    · exact ⟨v, by rw [keyD_inj e1]; exact List.mem_cons_self .., rv⟩
    · obtain ⟨u, h1, h2⟩ := ih t1 m
      exact ⟨u, List.mem_cons_of_mem _ h1, h2⟩
end
section
variable {X : Cx} {B : Hp} {W : WX} {e e2 : Expr} {fe : ME} {fs : MA} {p apos cpos pos : Pos}
theorem RepK.vals {K : PySem.W.Frag} {mg : Str → Option Value} {F : Hp} : ∀ {ks : List (Key × V)} {ds : List (D × D)}, RepK K mg F ks ds → Reps K mg F (ks.map (·.2)) (ds.map (·.2))
  | _, _, .nil => .nil
  | _, _, .cons a b => .cons a (RepK.vals b)
end
end Cl
namespace Cl
open PySem L2
section
variable {K : PySem.W.Frag} {mg : Str → Option Value} {B F : Hp} {rho : List Addr} {st : List O} {H : Hp} {vs : List V} {ds : List S} {Q : VK} {W' : Value → Option Addr → Hp → Prop} {a : Addr} {o : O}
theorem RepSK.length : ∀ {kvs : List (Key × V)} {l : List (D × S)}, RepSK K mg F rho kvs l → kvs.length = l.length
  | _, _, .nil => rfl
  | _, _, .cons _ b => by rw [List.length_cons, List.length_cons, RepSK.length b]
theorem RepSK.append : ∀ {xs ys : List (Key × V)} {us ws : List (D × S)}, RepSK K mg F rho xs us → RepSK K mg F rho ys ws → RepSK K mg F rho (xs ++ ys) (us ++ ws)
  | _, _, _, _, .nil, s => s
  | _, _, _, _, .cons r t, s => .cons r (RepSK.append t s)
end
section
variable {X : Cx} {B : Hp} {W : WX} {es : List Expr} {fs : MA} {pos : Pos}
/-- {}: a new dict of the store, for texts -/
@[simp] def eDctN : ME := fun _ st => some (.ok (.obj st.length), st ++ [.dct []])
theorem Post.here {K : PySem.W.Frag} {mg : Str → Option Value} {B F : Hp} {rho : List Addr} {α β : Type} {R : Hp → List Addr → Hp → β → Prop} {W : Value → Option Addr → Hp → Prop} {a : α} {k : α → M β} {st st' : List O} {m : M α} (e : m st = some (.ok a, st')) (h : Post K mg B R W F rho (M.bind m k st)) : Post K mg B R W F rho (k a st') := by
  unfold M.bind at h
  rw [e] at h
  exact h
end
end Cl
namespace L2
open PySem PySem.Spec PyProof.Rows
end L2
namespace Cl
open PySem L2
end Cl
namespace Cl
open PySem L2
end Cl
namespace Cl
open PySem L2
end Cl
namespace ClH
open PySem PySem.Spec PyProof.Rows HotX
end ClH
namespace L2H
open PySem PySem.Spec PyProof.Rows L2 HotX ClH
end L2H
namespace L2H
open PySem PySem.Spec PyProof.Rows L2 HotX ClH
section
variable {X : Cx} {pins : List (Addr × Obj)} {σ : L2.St} {H : Hp} {s : Shared} {i : Nat} {n : Str}
/-- what an exception of the suite meets: noted, the name goes, handed on -/
def wayOut (X : Cx) (hd : Option Value) (n : Str) (pos : Pos) (Er : Value → Shared → Prop) : Value → Shared → Prop := fun x s3 =>
  wpAny (model X.prog X.w) (X.A.mark hd) (noteFrame x X.env) (fun _ s3' =>
    wpAny (model X.prog X.w) (X.A.mark hd) (do bindName X.env n .none; unbindBehindTheSuite X.env n pos)
      (fun _ s4 => wpAny (model X.prog X.w) (X.A.mark hd) (passOn "try.except-as" x X.env : Sem Flow) (fun _ _ => False) (notedBy (model X.prog X.w) (X.A.mark hd) X.env Er) s4)
      (fun y s4 => wpAny (model X.prog X.w) (X.A.mark hd) (setFlight x none) (fun _ s5 => notedBy (model X.prog X.w) (X.A.mark hd) X.env Er y s5) (notedBy (model X.prog X.w) (X.A.mark hd) X.env Er) s4) s3')
    (notedBy (model X.prog X.w) (X.A.mark hd) X.env Er) s3
/-- the context of an except suite that may raise, with the way out -/
abbrev suiteO (X : Cx) (a : Addr) (pn : List (Addr × Obj)) (n : Str) (pos : Pos) (Er : Value → Shared → Prop) : Cx := { suiteX X a pn with xe := wayOut X (some (.ref a)) n pos Er }
theorem suiteO_of {a : Addr} {pn pn' : List (Addr × Obj)} {pos : Pos} {Er : Value → Shared → Prop} (I : Inv (X.suite a pn) pn' σ H s) : Inv (suiteO X a pn n pos Er) pn' σ H s := Inv.unwish (X := suiteO X a pn n pos Er) (E := fun _ _ => False) I
theorem unsuiteO {a : Addr} {q : Addr × Obj} {pn' : List (Addr × Obj)} {pos : Pos} {Er : Value → Shared → Prop} (I : Inv (suiteO X a (q :: (X.pn ++ pins)) n pos Er) pn' σ H s) (ok : X.Ok) : Inv X pins σ H s :=
  Inv.unsuite (X := X) (a := a) (q := q) (pn' := pn') (show Inv (X.suite a (q :: (X.pn ++ pins))) pn' σ H s from I.wish fun _ _ => False) ok
end
end L2H
namespace Cl
open PySem L2 L2H
end Cl
namespace Cl
open PySem L2
end Cl
namespace L2H
open PySem PySem.Spec PyProof.Rows L2 HotX ClH
end L2H
namespace L2
open PySem PySem.Spec PyProof.Rows
end L2
namespace Cl
open PySem L2
/-- o.f as a target among others, o of the store -/
@[simp] def tgFld (ns : List Str) (f : Str) (o : ME) : MG := fun z sl st => match o sl st with
  | some (.ok (.obj k), st1) => (match st1[k]? with
    | some (.ins n fs) => if n ∈ ns ∧ fs.length < 1000 then some (sl, st1.set k (.ins n (putD f z fs))) else none
    | _ => none)
  | _ => none
end Cl
namespace Cl
open PySem L2
end Cl
namespace Cl
open PySem L2
def keepOnly (h : Heap) (p : Addr → Bool) : Heap := { h with objs := h.objs.mapIdx fun i o => if p i then o else { o with data := .freed } }
theorem keepOnly_size (h : Heap) (p : Addr → Bool) : (keepOnly h p).objs.size = h.objs.size := by simp [keepOnly]
theorem keepOnly_yes {h : Heap} {p : Addr → Bool} {a : Addr} (hp : p a = true) : (keepOnly h p).get? a = h.get? a := by
  have e : (keepOnly h p).objs[a]? = h.objs[a]? := by
    simp only [keepOnly, Array.getElem?_mapIdx]
    cases h.objs[a]? with
    | none => rfl
    | some o => simp [hp]
  unfold Heap.get?
  rw [e]
theorem keepOnly_no {h : Heap} {p : Addr → Bool} {a : Addr} (hp : p a = false) : (keepOnly h p).get? a = none := by
  have e : (keepOnly h p).objs[a]? = (h.objs[a]?).map fun o => { o with data := .freed } := by
    simp only [keepOnly, Array.getElem?_mapIdx]
    cases h.objs[a]? with
    | none => rfl
    | some o => simp [hp]
  unfold Heap.get?
  rw [e]
  cases h.objs[a]? with
  | none => rfl
  | some o => rfl
theorem keepOnly_of {h : Heap} {p : Addr → Bool} {a : Addr} {o : Obj} (e : (keepOnly h p).get? a = some o) : p a = true ∧ h.get? a = some o := by
  cases q : p a with
  | true => exact ⟨rfl, by rw [keepOnly_yes q] at e; exact e⟩
  | false => rw [keepOnly_no q] at e; cases e
open Classical in
/-- the base, and the objects at S as they stand in h -/
noncomputable def baseX (base h : Heap) (S : Addr → Prop) : Heap := keepOnly h fun a => decide ((base.get? a).isSome = true ∨ S a)
/-- more than base -/
abbrev Ext (base base' : Heap) : Prop := ∀ b o, base.get? b = some o → base'.get? b = some o
theorem Ext.refl (b : Heap) : Ext b b := fun _ _ h => h
theorem Ext.trans {a b c : Heap} (h : Ext a b) (h2 : Ext b c) : Ext a c := fun x o e => h2 x o (h x o e)
theorem baseX_ext {base h : Heap} {S : Addr → Prop} (k : Ext base h) : Ext base (baseX base h S) := fun b o e => by
  unfold baseX
  rw [keepOnly_yes (by simp [e])]
  exact k b o e
theorem baseX_of {base h : Heap} {S : Addr → Prop} {a : Addr} {o : Obj} (e : (baseX base h S).get? a = some o) : h.get? a = some o ∧ (S a ∨ (base.get? a).isSome = true) := by
  obtain ⟨h1, h2⟩ := keepOnly_of e
  refine ⟨h2, ?_⟩
  simp only [decide_eq_true_iff] at h1
  exact h1.symm
theorem Mod.more {K : PySem.W.Frag} {mg : Str → Option Value} {base base' : Heap} (m : Mod K mg base) (k : Ext base base') : Mod K mg base' :=
  ⟨m.kin.keeps k, m.glob.keeps k, by obtain ⟨mb, h1, h2⟩ := m.blt; exact ⟨mb, h1.keeps k, h2⟩, m.nolimit.keeps k⟩
theorem TabB.more {base base' : Heap} {mg : Str → Option Value} {c P : Addr} (t : LamX.TabB base mg c P) (k : Ext base base') : LamX.TabB base' mg c P := ⟨t.code.keeps k, t.bm.keeps k, t.gP⟩
theorem funs_more {base base' h : Heap} : ∀ {l : List Env}, h.FunFrames base l → (∀ L ∈ frs l, base'.get? L = none) → h.FunFrames base' l
  | [], _, _ => trivial
  | env :: l, ⟨hk, ⟨L, o, hf, hn, ho, hd⟩, hr⟩, k => by
    have e : frs (env :: l) = L :: frs l := by unfold frs; rw [List.filterMap_cons, hf]
    rw [e] at k
    exact ⟨hk, ⟨L, o, hf, k L List.mem_cons_self, ho, hd⟩, funs_more hr fun M hM => k M (List.mem_cons_of_mem _ hM)⟩
theorem Env0.more {P : Program} {w : World} {K : PySem.W.Frag} {mg : Str → Option Value} {base : Heap} {A : Around} {outer : List Env} {s : Shared} {H : Hp} {S : Addr → Prop} (e : Env0 P w K mg base A outer s H) (hS : ∀ a, S a → H a = none) (hf : ∀ a, S a → a ∉ frs outer) :
    Env0 P w K mg (baseX base s.heap S) A outer s H := by
  have k : Ext base s.heap := fun b o q => (e.bs b o q).1
  refine ⟨e.frames, Mod.more e.mod (baseX_ext k), fun b o q => ?_, ?_, funs_more e.funs fun L hL => ?_, e.frf, e.hok, e.bare⟩
  · obtain ⟨h1, h2⟩ := baseX_of q
    refine ⟨h1, ?_⟩
    rcases h2 with h2 | h2
    · exact hS b h2
    · obtain ⟨o', h2⟩ := Option.isSome_iff_exists.mp h2
      exact (e.bs b o' h2).2
  · unfold baseX
    rw [keepOnly_size]
    exact Nat.le_refl _
  · cases q : (baseX base s.heap S).get? L with
    | none => rfl
    | some o =>
      obtain ⟨h1, h2⟩ := baseX_of q
      rcases h2 with h2 | h2
      · exact absurd hL (hf L h2)
      · obtain ⟨o', h2⟩ := Option.isSome_iff_exists.mp h2
        rw [(e.funs.mem hL).1] at h2
        cases h2
end Cl
namespace HotX
open PySem PySem.Spec PyProof.Rows
end HotX
namespace L2H
open PySem PySem.Spec PyProof.Rows L2 HotX
end L2H
namespace Cl
open PySem L2 L2H
/-- a tuple of the store is unpacked -/
@[simp] def tgTupO (n : Nat) (gs : MGs) : MG := fun d sl st => match d with
  | .obj k => (match st[k]? with
    | some (.tup ss) => if ss.length = n then gs ss sl st else none
    | _ => none)
  | _ => none
end Cl
namespace Cl
open PySem L2
end Cl
namespace Cl
open PySem L2
/-- an object that stands as it is -/
def FunO (a : Addr) (o : Obj) : HO := .ext fun h => h.get? a = some o
/-- the code object of a lambda, known to stand -/
def CodeK (B F : Hp) (c : Addr) (q : Str) : Prop := B c = some (LamX.CodeO c q) ∨ F c = some (LamX.CodeO c q)
theorem CodeK.mono {B F F' : Hp} {c : Addr} {q : Str} (e : Same F F') (h : CodeK B F c q) : CodeK B F' c q := h.elim .inl fun h => .inr (e _ _ h)
theorem CodeK.at {K : PySem.W.Frag} {mg : Str → Option Value} {B F : Hp} {rho : List Addr} {st : List O} {H : Hp} {c : Addr} {q : Str} (h : CodeK B F c q) (co : Core K mg B F rho st H) : H c = some (LamX.CodeO c q) := h.elim (co.frame _ _) (co.same _ _)
/-- a lambda of X's frame: its object, what its call binds -/
def LamFo (X : Cx) (params : Arguments) (body : Expr) (scope : Scope) (nms : List Str) (F : Hp) (f c' : Addr) : Prop :=
  ∃ (dV doc pm ctv : Value) (us : List Value) (T : List (Addr × Obj)), F f = some (FunO f (PySem.W.kdv_obj "<lambda>" (X.env.qual ++ "<lambda>") params (.expr body) scope (cloFrom X.env.cells scope.names []) dV doc pm c' ctv)) ∧ us.length = nms.length ∧
    (∀ p ∈ T, F p.1 = some (FunO p.1 p.2)) ∧ ∀ s : Shared, (∀ p ∈ T, s.heap.get? p.1 = some p.2) → BindsTo s (PySem.W.kdv_fn "<lambda>" (X.env.qual ++ "<lambda>") params (.expr body) scope (cloFrom X.env.cells scope.names []) dV doc pm (.ref c') ctv) ⟨[], []⟩ (nms.zip us)
theorem LamFo.mono {X : Cx} {params : Arguments} {body : Expr} {scope : Scope} {nms : List Str} {F F' : Hp} {f c' : Addr} (e : Same F F') (h : LamFo X params body scope nms F f c') : LamFo X params body scope nms F' f c' := by
  obtain ⟨dV, doc, pm, ctv, us, T, h1, h2, h3, h4⟩ := h
  exact ⟨dV, doc, pm, ctv, us, T, e _ _ h1, h2, fun p hp => e _ _ (h3 p hp), h4⟩
section
variable {K : PySem.W.Frag} {mg : Str → Option Value} {B F : Hp} {rho : List Addr} {st : List O} {H : Hp}
/-- a known object is kept -/
theorem Core.keepIn {c : Addr} {u : HO} (co : Core K mg B F rho st H) (h : H c = some u) (hB : B c = none) (hF : F c = none) (hn : ¬ Okx u) (ht : ∀ ps, u ≠ .tbl ps) : Core K mg B (upd F c u) rho st H := by
  have nr : ∀ (k : Nat) (b : Addr), rho[k]? = some b → b ≠ c := fun k b e z => by
    obtain ⟨v, e1, e2⟩ := co.liv k b e
    rw [z, h] at e1
    cases e1
    exact hn e2
  refine ⟨fun b o e => ?_, co.frame, fun b e => ?_, co.off, co.nd, co.len, fun k b o e1 e2 => ?_, co.liv, fun P q i => ?_⟩
  · by_cases z : b = c
    · rw [z, upd_same] at e; rw [z, h]; exact e
    · rw [upd_ne z] at e; exact co.same _ _ e
  · by_cases z : b = c
    · rw [z]; exact hB
    · rw [upd_ne z] at e; exact co.apart b e
  · exact (co.own k b o e1 e2).mono (same_upd hF) (Pre.refl _) (fun z => by rw [upd_ne (nr k b e1)]; exact z) (fun u z => z)
  · obtain ⟨h1, h2, ps, h3, h4⟩ := co.tabs P q i
    have np : P ≠ c := fun z => by
      rw [z, h] at h3
      cases h3
      exact ht ps rfl
    exact ⟨h1, by rw [upd_ne np]; exact h2, ps, h3, h4⟩
end
end Cl
namespace Cl
open PySem L2 LamX PyProof.Rows
/-- captured names, globals, and parameters that the maker doesn't know -/
structure LamD (N : List Str) (sc scope : Scope) (nms : List Str) : Prop where
  kind : scope.kind = .function
  co : scope.isCoroutine = false
  gen : scope.isGenerator = false
  own : ∀ y ∈ scope.names, y.2 ≠ .cell ∧ (y.2 = .local → y.1 ∉ N)
  free : ∀ y ∈ scope.names, y.2 = .free → sc.names.lookup y.1 = some .cell ∨ sc.names.lookup y.1 = some .free
  par : ∀ n ∈ nms, scope.names.lookup n = some .local
theorem LamD.has {X : Cx} {scope : Scope} {nms : List Str} (L : LamD X.N X.env.scope scope nms) (ok : X.Ok) : ∀ y ∈ scope.names, y.2 = .free → ∃ c, X.env.cells.lookup y.1 = some c := fun y hy e => by
  rcases L.free y hy e with k | k
  · exact ok.has _ (.inl k)
  · exact ok.has _ (.inr k)
theorem Un.comp {fs fs2 ex2 : List Addr} {H0 H1 H2 : Hp} {h0 h1 h2 : Heap} (a : Un fs [] H0 H1 h0 h1) (b : Un fs2 ex2 H1 H2 h1 h2) (hf : ∀ c o, h0.get? c = some o → c ∈ fs2 → c ∈ fs) (hx : ∀ c o, h0.get? c = some o → c ∉ ex2) : Un fs [] H0 H2 h0 h2 where
  keep c o e n nf nx := b.keep c o (a.keep c o e n nf nx) (a.free c o e n nx) (fun z => nf (hf c o e z)) (hx c o e)
  slot c o e n mf nx := by
    obtain ⟨sl, q⟩ := a.slot c o e n mf nx
    obtain ⟨sl2, q2⟩ := b.any q (a.free c o e n nx) (hx c o e)
    exact ⟨sl2, q2⟩
  free c o e n nx := by
    obtain ⟨o', q⟩ := a.there c o e nx
    exact b.free c o' q (a.free c o e n nx) (hx c o e)
  there c o e nx := by
    obtain ⟨o', q⟩ := a.there c o e nx
    exact b.there c o' q (hx c o e)
  tups c xs e := b.tups c xs (a.tups c xs e)
  frzs c o u e := b.frzs c o u (a.frzs c o u e)
  tbls c ps e := by
    obtain ⟨m, q⟩ := a.tbls c ps e
    obtain ⟨m2, q2⟩ := b.tbls c _ q
    exact ⟨m ++ m2, by rw [q2, Array.append_assoc]⟩
end Cl
namespace L2
open PySem PySem.Spec PyProof.Rows
end L2
namespace Cl
open PySem L2 LamX PyProof.Rows
end Cl
namespace Cl
open PySem L2 LamX PyProof.Rows
/-- a lambda of X's frame, with the function of its body -/
def LamR (X : Cx) (k : Nat) (q : Str) (B F : Hp) (f : Addr) (fb : ME) : Prop := ∃ (c' : Addr) (params : Arguments) (body : Expr) (scope : Scope) (nms : List Str), LamFo X params body scope nms F f c' ∧ CodeK B F c' q ∧ LamD X.N X.env.scope scope nms ∧
  ∀ (B' : Hp) (A : Around) (outer : List Env) (s : Shared) (H : Hp) (E : XK) (f c' : Addr), Room k (A.deeper (lamEnv X scope s.heap.objs.size f c')) → QE (lamCx X A outer s H E scope f c') B' (fun cls d _ H => E cls d H) body fb
inductive LamRs (X : Cx) (k : Nat) (q : Str) (B F : Hp) : List Addr → List ME → Prop
  | nil : LamRs X k q B F [] []
  | cons {f : Addr} {fb : ME} {fs : List Addr} {fbs : List ME} (h : LamR X k q B F f fb) (t : LamRs X k q B F fs fbs) : LamRs X k q B F (f :: fs) (fb :: fbs)
theorem LamR.mono {X : Cx} {k : Nat} {q : Str} {B F F' : Hp} {f : Addr} {fb : ME} (e : Same F F') (h : LamR X k q B F f fb) : LamR X k q B F' f fb := by
  obtain ⟨c', ps, bd, sc, nms, h1, h2, h3, h4⟩ := h
  exact ⟨c', ps, bd, sc, nms, h1.mono e, h2.mono e, h3, h4⟩
theorem LamRs.mono {X : Cx} {k : Nat} {q : Str} {B F F' : Hp} {fs : List Addr} {fbs : List ME} (e : Same F F') (h : LamRs X k q B F fs fbs) : LamRs X k q B F' fs fbs := by
  induction h with
  | nil => exact .nil
  | cons h _ ih => exact .cons (h.mono e) ih
theorem LamRs.at {X : Cx} {k : Nat} {q : Str} {B F : Hp} {fs : List Addr} {fbs : List ME} (h : LamRs X k q B F fs fbs) : ∀ {i : Nat} {f : Addr}, fs[i]? = some f → ∃ fb, fbs[i]? = some fb ∧ LamR X k q B F f fb := by
  induction h with
  | nil => intro i f e; simp at e
  | cons h _ ih =>
    intro i f e
    cases i with
    | zero => cases e; exact ⟨_, rfl, h⟩
    | succ i => exact ih (i := i) e
theorem LamRs.len {X : Cx} {k : Nat} {q : Str} {B F : Hp} {fs : List Addr} {fbs : List ME} (h : LamRs X k q B F fs fbs) : fs.length = fbs.length := by
  induction h with
  | nil => rfl
  | cons _ _ ih => rw [List.length_cons, List.length_cons, ih]
end Cl
namespace Cl
open PySem L2 LamX PyProof.Rows
end Cl
namespace Cl
open PySem L2 LamX PyProof.Rows
end Cl
namespace Cl
open PySem L2 C8 PyProof.Rows
end Cl
namespace Cl
open PySem L2 LamX PyProof.Rows
section
variable {K : PySem.W.Frag} {mg : Str → Option Value} {B F : Hp} {rho : List Addr} {st : List O} {H : Hp} {p : Addr} {u u' : HO}
theorem Core.lent (c : Core K mg (upd B p u) F rho st H) : H p = some u ∧ F p = none ∧ ∀ k : Nat, rho[k]? ≠ some p := by
  refine ⟨c.frame p u upd_same, ?_, fun k e => ?_⟩
  · cases q : F p with
    | none => rfl
    | some o =>
      have := c.apart p (by rw [q]; exact fun z => by cases z)
      rw [upd_same] at this
      cases this
  · have := c.off k p e
    rw [upd_same] at this
    cases this
/-- it is given back, and never changed again -/
theorem Core.keep (c : Core K mg (upd B p u) F rho st H) (hb : B p = none) (n : ¬ Bad u) : Core K mg B (upd F p u) rho st H := by
  obtain ⟨hp, hf, ho⟩ := c.lent
  have nT : ∀ {b : Addr} {o : HO}, H b = some o → Bad o → b ≠ p := fun e q z => by
    rw [z, hp] at e
    cases e
    exact n q
  refine ⟨fun b o e => ?_, fun b o e => ?_, fun b q => ?_, fun k b e => ?_, c.nd, c.len, fun k b o e1 e2 => ?_, c.liv, c.tabs.mono (fun b o e q => e) (fun b o e q z => ?_) fun b o e q z => ?_⟩
  · by_cases z : b = p
    · rw [z, upd_same] at e
      cases e
      rw [z]; exact hp
    · rw [upd_ne z] at e
      exact c.same b o e
  · have z : b ≠ p := fun z => by rw [z, hb] at e; cases e
    exact c.frame b o (by rw [upd_ne z]; exact e)
  · by_cases z : b = p
    · rw [z]; exact hb
    · rw [upd_ne z] at q
      have := c.apart b q
      rw [upd_ne z] at this
      exact this
  · have nb : b ≠ p := fun z => ho k (by rw [← z]; exact e)
    have := c.off k b e
    rw [upd_ne nb] at this
    exact this
  · exact (c.own k b o e1 e2).mono (same_upd hf) (Pre.refl _) (fun z => by
      have nb : b ≠ p := fun z => ho k (by rw [← z]; exact e1)
      rw [upd_ne nb]; exact z) (fun u z => z)
  · rw [upd_ne (nT e q)] at z; exact z
  · rw [upd_ne (nT e q)]; exact z
end
end Cl
namespace Cl
open PySem L2
end Cl
namespace Cl
open PySem L2
end Cl
namespace Cl
open PySem L2 LamX PyProof.Rows
end Cl
namespace PySem.W
open PySem PySem.Calls PyProof.Rows PyProof.V PySem.Spec
end PySem.W
namespace L2
open PySem PySem.Spec PyProof.Rows
end L2
namespace Cl
open PySem L2
end Cl
namespace L2
open PySem PySem.Spec PyProof.Rows
end L2
namespace Cl
open PySem L2
end Cl
namespace G
open PySem L2 Cl
def top (i : Nat) : Stmt := PySem.Challenge.pw_watervalves_k02_check_faults.main.body.getD i (.Pass ⟨0, 0, 0, 0⟩)
end G
namespace G
open PySem L2 Cl
def fnE : List He.DefD := [⟨("SyntaxFault", some "__init__"), "__init__", "SyntaxFault.__init__", defArgs (inClass (top 3) 0), defBody (inClass (top 3) 0), defScope (inClass (top 3) 0), [], []⟩,
  ⟨("CheckFault", some "__init__"), "__init__", "CheckFault.__init__", defArgs (inClass (top 4) 0), defBody (inClass (top 4) 0), defScope (inClass (top 4) 0), [], []⟩,
  ⟨("_law_error_of", none), "_law_error_of", "_law_error_of", defArgs (top 51), defBody (top 51), defScope (top 51), [], []⟩,
  ⟨("Token", some "__init__"), "__init__", "Token.__init__", defArgs (inClass (top 30) 0), defBody (inClass (top 30) 0), defScope (inClass (top 30) 0), [], []⟩,
  ⟨("run_end", none), "run_end", "run_end", defArgs (top 31), defBody (top 31), defScope (top 31), [], []⟩,
  ⟨("read_token", none), "read_token", "read_token", defArgs (top 32), defBody (top 32), defScope (top 32), [], []⟩,
  ⟨("tokenize", none), "tokenize", "tokenize", defArgs (top 33), defBody (top 33), defScope (top 33), [], []⟩,
  ⟨("Parser", some "__init__"), "__init__", "Parser.__init__", defArgs (inClass (top 41) 0), defBody (inClass (top 41) 0), defScope (inClass (top 41) 0), [], []⟩,
  ⟨("Plan", some "__init__"), "__init__", "Plan.__init__", defArgs (inClass (top 40) 0), defBody (inClass (top 40) 0), defScope (inClass (top 40) 0), [], []⟩,
  ⟨("Parser", some "peek"), "peek", "Parser.peek", defArgs (inClass (top 41) 1), defBody (inClass (top 41) 1), defScope (inClass (top 41) 1), [], []⟩,
  ⟨("Parser", some "fail"), "fail", "Parser.fail", defArgs (inClass (top 41) 2), defBody (inClass (top 41) 2), defScope (inClass (top 41) 2), [], []⟩,
  ⟨("Parser", some "found"), "found", "Parser.found", defArgs (inClass (top 41) 3), defBody (inClass (top 41) 3), defScope (inClass (top 41) 3), [], []⟩,
  ⟨("Parser", some "take_word"), "take_word", "Parser.take_word", defArgs (inClass (top 41) 5), defBody (inClass (top 41) 5), defScope (inClass (top 41) 5), [], []⟩,
  ⟨("Parser", some "take"), "take", "Parser.take", defArgs (inClass (top 41) 4), defBody (inClass (top 41) 4), defScope (inClass (top 41) 4), [], []⟩,
  ⟨("Parser", some "take_names"), "take_names", "Parser.take_names", defArgs (inClass (top 41) 6), defBody (inClass (top 41) 6), defScope (inClass (top 41) 6), [], []⟩,
  ⟨("Parser", some "valve"), "valve", "Parser.valve", defArgs (inClass (top 41) 7), defBody (inClass (top 41) 7), defScope (inClass (top 41) 7), [], []⟩,
  ⟨("Parser", some "parse_rank"), "parse_rank", "Parser.parse_rank", defArgs (inClass (top 41) 12), defBody (inClass (top 41) 12), defScope (inClass (top 41) 12), [], []⟩,
  ⟨("Parser", some "parse_pause"), "parse_pause", "Parser.parse_pause", defArgs (inClass (top 41) 11), defBody (inClass (top 41) 11), defScope (inClass (top 41) 11), [], []⟩,
  ⟨("Parser", some "parse_start"), "parse_start", "Parser.parse_start", defArgs (inClass (top 41) 10), defBody (inClass (top 41) 10), defScope (inClass (top 41) 10), [], []⟩,
  ⟨("Parser", some "parse_valves"), "parse_valves", "Parser.parse_valves", defArgs (inClass (top 41) 9), defBody (inClass (top 41) 9), defScope (inClass (top 41) 9), [], []⟩,
  ⟨("Parser", some "parse_number"), "parse_number", "Parser.parse_number", defArgs (inClass (top 41) 8), defBody (inClass (top 41) 8), defScope (inClass (top 41) 8), [], []⟩,
  ⟨("Parser", some "parse_plan"), "parse_plan", "Parser.parse_plan", defArgs (inClass (top 41) 13), defBody (inClass (top 41) 13), defScope (inClass (top 41) 13), [], []⟩,
  ⟨("load", none), "load", "load", defArgs (top 42), defBody (top 42), defScope (top 42), [], []⟩,
  ⟨("runs_of", none), "runs_of", "runs_of", defArgs (top 44), defBody (top 44), defScope (top 44), [], []⟩,
  ⟨("format_parsed", none), "format_parsed", "format_parsed", defArgs (top 45), defBody (top 45), defScope (top 45), [], []⟩,
  ⟨("format_plan", none), "format_plan", "format_plan", defArgs (top 46), defBody (top 46), defScope (top 46), [], []⟩,
  ⟨("_law_below", none), "_law_below", "_law_below", defArgs (top 49), defBody (top 49), defScope (top 49), [], []⟩,
  ⟨("_law_faulty", none), "_law_faulty", "_law_faulty", defArgs (top 50), defBody (top 50), defScope (top 50), [], []⟩,
  ⟨("_law_random", none), "_law_random", "_law_random", defArgs (top 48), defBody (top 48), defScope (top 48), [], []⟩,
  ⟨("law", none), "law", "law", defArgs (top 52), defBody (top 52), defScope (top 52), [], []⟩]
def faE : List He.Fa := [.glo "GardenError", .glo "InvalidTick", .glo "InvalidCount", .glo "UnknownValve", .glo "TooLong", .glo "DifferentValves", .glo "Contradiction", .glo "QueueFull", .glo "InvalidName", .glo "UnknownName", .glo "TooManyStarts", .glo "SyntaxFault", .glo "CheckFault", .glo "InvalidCode", .glo "InvalidOperation", .free "isinstance", .free "ValueError", .glo "_law_error_of", .glo "Token", .cls "Token", .noat "Token" "column", .noat "Token" "line", .noat "Token" "text", .noat "Token" "kind", .free "len", .str "NAME" "name", .mkr "Token", .int "MAX_LETTERS" 8, .glo "KEYWORDS", .str "KEYWORD" "keyword", .str "LETTERS" "abcdefghijklmnopqrstuvwxyz", .glo "run_end", .str "DIGITS" "0123456789", .str "NUMBER" "number", .int "MAX_DIGITS" 2, .str "END_SIGN" ";", .str "SIGN" "sign", .str "END" "end", .free "enumerate", .str "SPACES" " \n", .glo "read_token", .glo "Parser", .cls "Parser", .noat "Parser" "ranks", .noat "Parser" "pauses", .noat "Parser" "starts", .noat "Parser" "names", .noat "Parser" "faults", .noat "Parser" "at", .noat "Parser" "tokens", .glo "Plan", .cls "Plan", .noat "Plan" "ranks", .noat "Plan" "paused", .noat "Plan" "starts", .noat "Plan" "names", .noat "Plan" "most", .noat "Plan" "length", .meth "Parser" "peek", .meth "Parser" "fail", .meth "Parser" "take_word", .meth "Parser" "take", .meth "Parser" "found", .meth "Parser" "take_names", .meth "Parser" "valve", .free "int", .int "MAX_STARTS" 20, .int "MAX_LENGTH" 30, .int "MAX_VALVES" 8, .free "tuple", .mkr "Plan", .free "sorted", .free "range", .free "any", .free "min", .meth "Parser" "parse_rank", .meth "Parser" "parse_pause", .meth "Parser" "parse_start", .meth "Parser" "parse_valves", .meth "Parser" "parse_number", .int "MAX_OPEN" 9, .int "MAX_ROUND" 60, .glo "tokenize", .mkr "Parser", .meth "Parser" "parse_plan", .glo "runs_of", .free "str", .free "list", .glo "load", .glo "format_parsed", .glo "_law_below", .free "abs", .glo "format_plan", .glo "_law_faulty", .glo "_law_random", .glo "law"]
def prE : List Prp := []
def tsE : List He.Tab := []
def tfE : List He.Defn := [("Parser", some "parse_plan"), ("law", none)]
def exE (K : PySem.W.Frag) : Bool := lamB K tfE && ((He.tupB K "KEYWORDS" ((["round", "open", "valves", "start", "for", "pause", "rank"] : List Str).map He.Dv.str) && noDB K "KEYWORDS") && (errB K "SyntaxFault" ["line", "column"] && (errB K "CheckFault" ["reason", "line", "column"] && (ginB K "GardenError" && (errsB K)))))
abbrev RE : PySem.W.OpenRow := PySem.W.OpenLaw.row PySem.Challenge.rw_watervalves_k02_check_faults
abbrev hkE : PySem.W.Hook := hookM 6 faE fnE tsE prE tfE exE
def obE (s : PySem.W.SharedT) : AlZ := toldM 6 faE fnE tsE prE tfE exE (HandSHeadRun.getT s)
theorem obE_eq (s : PySem.W.SharedT) : obE s = hkE.obs s.abs := toldM_same (HandSHeadRun.getT_eq s)
def ls0 : List Str := ["_wall", "GardenError", "SyntaxFault", "CheckFault", "InvalidTick", "InvalidCount", "UnknownValve", "TooLong", "DifferentValves", "Contradiction", "InvalidCode", "QueueFull", "InvalidName", "UnknownName", "InvalidOperation", "TooManyStarts", "KEYWORDS", "LETTERS", "DIGITS", "SPACES", "END_SIGN", "MAX_LETTERS", "MAX_DIGITS", "NAME", "NUMBER", "KEYWORD", "SIGN", "END", "Token", "run_end"]
def ls1 : List Str := ["read_token", "tokenize", "MAX_ROUND", "MAX_OPEN", "MAX_VALVES", "MAX_LENGTH", "MAX_STARTS", "Plan", "Parser", "load", "runs_of", "format_parsed", "format_plan", "_law_random", "_law_below", "_law_faulty", "_law_error_of"]
def lsE : List Str := ls0 ++ ls1
abbrev kE (s : PySem.W.SharedT) : PySem.W.Frag := partM 6 (HandSHeadRun.getT s)
open PySem PySem.W PySem.Calls PyProof.Rows HandSHeadRun in
theorem run1 (w : World) : ∀ os : OsState, (endF (stepQ (denQ tabQ) RE.prog w) 20000 RE.prog w os).map (fun s => looksF RE.prog (boot_heap w.params) s.abs) = some (true) := by
  intro os
  kernel_rfl
open PySem PySem.W PySem.Calls PyProof.Rows HandSHeadRun in
theorem run2 (w : World) : ∀ os : OsState, (endF (stepQ (denQ tabQ) RE.prog w) 20000 RE.prog w os).map (fun s => seenQ (PySem.W.view RE.prog [52]) lsE (importedModules RE.prog.main.body) (fun s => xlAt (PySem.W.view RE.prog [52]) [] s && recOk RE.toRowW.records s) s.abs) = some (openGood (PySem.W.view RE.prog [52]) lsE) := by
  intro os
  kernel_rfl
open PySem PySem.W PySem.Calls PyProof.Rows HandSHeadRun in
theorem runK (w : World) : ∀ os : OsState, (endF (stepQ (denQ tabQ) RE.prog w) 20000 RE.prog w os).map (fun s => (((((((faE.all fun f => f.ok (kE s)) && fnE.all fun d => d.ok (kE s)), fnE.map fun d => He.fnW (kE s) d.at_), tsE.map fun t => He.dicW (kE s) (t.1 (kE s))), exE (kE s) && He.tabsB (getT s) tfE (kE s)), prE.map fun p => fnA (kE s) (gAd (kE s) p.1)) : AlZ)) = some (((((true, fnE.map He.DefD.val), tsE.map fun t => some (He.keysIn w.params t.2)), true), prE.map fun p => p.2.val)) := by
  intro os
  kernel_rfl
theorem run_parts {α β γ δ : Type} {o : Option α} {f : α → β} {g : α → γ} {a : α → δ} {x : β} {y : γ} {z : δ}
    (h1 : o.map f = some x) (h2 : o.map g = some y) (h3 : o.map a = some z) : o.map (fun s => (f s, g s, a s)) = some (x, y, z) := by
  cases o with
  | none => cases h1
  | some s =>
    simp only [Option.map_some, Option.some.injEq] at h1 h2 h3 ⊢
    rw [h1, h2, h3]
theorem runE (w : World) : HandSHeadRun.RunEq RE (PySem.W.view RE.prog [52]) hkE obE 20000 lsE w := fun os =>
  run_parts (run1 w os) (run2 w os) (runK w os)
end G
namespace G
open PySem L2 Cl
noncomputable def bs_error_of (a : Addr) (x : XD) : MS := (sSeq (sSet 2 (eArgs gLst (aCons (eIsX 1 a (x.n == "InvalidTick")) (aCons (eIsX 1 a (x.n == "InvalidCount")) (aCons (eIsX 1 a (x.n == "UnknownValve")) aNil)))))
    (sSeq (sSet 2 (eBin gAdd (eVar 2) (eArgs gLst (aCons (eIsX 1 a (x.n == "TooLong")) (aCons (eIsX 1 a (x.n == "DifferentValves")) (aCons (eIsX 1 a (x.n == "Contradiction")) aNil))))))
    (sSeq (sSet 2 (eBin gAdd (eVar 2) (eArgs gLst (aCons (eIsX 1 a (x.n == "QueueFull")) (aCons (eIsX 1 a (x.n == "InvalidName")) (aCons (eIsX 1 a (x.n == "UnknownName")) aNil))))))
    (sSeq (sSet 2 (eBin gAdd (eVar 2) (eArgs gLst (aCons (eIsX 1 a (x.n == "TooManyStarts")) (aCons (eIsX 1 a (x.n == "SyntaxFault")) (aCons (eIsX 1 a (x.n == "CheckFault")) aNil))))))
    (sSeq (sSet 2 (eBin gAdd (eVar 2) (eArgs gLst (aCons (eIsX 1 a (x.n == "InvalidCode")) (aCons (eIsX 1 a (x.n == "InvalidOperation")) aNil)))))
    (sSeq (sIf (tOrM (tBin gNe (eBM "list" gCntB (eVar 2) (aCons (eC (.bl true)) aNil)) (eC (.int 1))) (tNotM (tOfE (eIsX 1 a true)))) (sRet (eArgs gTup (aCons (eC (.str "other")) (aCons (eC (.int 0)) aNil)))) sNext)
    (sSeq (sSet 3 (eArgs gLst (aCons (eC (.str "tick")) (aCons (eC (.str "count")) (aCons (eC (.str "valve")) (aCons (eC (.str "long")) (aCons (eC (.str "different")) (aCons (eC (.str "contradiction")) (aCons (eC (.str "queue")) (aCons (eC (.str "name")) (aCons (eC (.str "unknown")) (aCons (eC (.str "many")) aNil))))))))))))
    (sSeq (sSet 4 (eBin gIx (eBin gAdd (eVar 3) (eArgs gLst (aCons (eC (.str "syntax")) (aCons (eC (.str "check")) (aCons (eC (.str "code")) (aCons (eC (.str "operation")) aNil)))))) (eBM "list" gIndex (eVar 2) (aCons (eC (.bl true)) aNil))))
    (sSeq (sIf (tBin (gInB false) (eVar 4) (eArgs gLst (aCons (eC (.str "syntax")) (aCons (eC (.str "check")) aNil)))) (sRet (eArgs gTup (aCons (eVar 4) (aCons (eIf (tBin gEq (eVar 4) (eC (.str "syntax"))) (eArgs gTup (aCons (eXf 1 a x "line") (aCons (eXf 1 a x "column") aNil))) (eArgs gTup (aCons (eXf 1 a x "reason") (aCons (eXf 1 a x "line") (aCons (eXf 1 a x "column") aNil))))) aNil)))) sNext)
    (sRet (eArgs gTup (aCons (eVar 4) (aCons (eIf (tBin (gInB false) (eVar 4) (eArgs gLst (aCons (eC (.str "code")) (aCons (eC (.str "operation")) aNil)))) (eXf 1 a x "place") (eC (.int 0))) aNil)))))))))))))
end G
namespace G
open PySem L2 Cl
noncomputable def c1_run_end : MT := (tAndM (tBin gLt (eVar 3) (eArgs (g1 gLen) (aCons (eVar 0) aNil))) (tBin (gInB false) (eBin gIx (eVar 0) (eVar 3)) (eVar 2)))
noncomputable def l1_run_end : MS := (sAug 3 gAddI (eC (.int 1)))
noncomputable def b_run_end : MS := (sSeq (sSet 3 (eVar 1))
    (sSeq (sWhile c1_run_end l1_run_end)
    (sRet (eVar 3))))
noncomputable def F_run_end : PF := asP 4 b_run_end
noncomputable def b_Token_init : MS := (sSeq (sFldSet ["Token"] "kind" (eVar 0) (eVar 1))
    (sSeq (sFldSet ["Token"] "text" (eVar 0) (eVar 2))
    (sSeq (sFldSet ["Token"] "line" (eVar 0) (eVar 3))
    (sFldSet ["Token"] "column" (eVar 0) (eVar 4)))))
noncomputable def F_Token_init : PF := asM "Token" 5 b_Token_init
noncomputable def b_read_token : MS := (sSeq (sSet 3 (eBin gIx (eVar 0) (eVar 2)))
    (sSeq (sIf (tBin gEq (eVar 3) (eC (.str ";"))) (sRet (eArgs (gMakeM 5 F_Token_init []) (aCons (eC (.str "sign")) (aCons (eVar 3) (aCons (eVar 1) (aCons (eVar 2) aNil)))))) sNext)
    (sSeq (sIf (tBin (gInB false) (eVar 3) (eC (.str "0123456789"))) (sSeq (sSet 4 (eSl gSl (eVar 0) (some (eVar 2)) (some (eArgs (gCallP 3 F_run_end []) (aCons (eVar 0) (aCons (eVar 2) (aCons (eC (.str "0123456789")) aNil)))))))
    (sSeq (sIf (tOrM (tBin gGt (eArgs (g1 gLen) (aCons (eVar 4) aNil)) (eC (.int 2))) (tAndM (tBin gGt (eArgs (g1 gLen) (aCons (eVar 4) aNil)) (eC (.int 1))) (tBin gEq (eVar 3) (eC (.str "0"))))) (sRaise "SyntaxFault" ["line", "column"] (aCons (eVar 1) (aCons (eVar 2) aNil))) sNext)
    (sRet (eArgs (gMakeM 5 F_Token_init []) (aCons (eC (.str "number")) (aCons (eVar 4) (aCons (eVar 1) (aCons (eVar 2) aNil)))))))) sNext)
    (sSeq (sSet 4 (eSl gSl (eVar 0) (some (eVar 2)) (some (eArgs (gCallP 3 F_run_end []) (aCons (eVar 0) (aCons (eVar 2) (aCons (eC (.str "abcdefghijklmnopqrstuvwxyz")) aNil)))))))
    (sSeq (sIf (tBin (gInB false) (eVar 4) (eC (.tup ((["round", "open", "valves", "start", "for", "pause", "rank"] : List Str).map D.str)))) (sRet (eArgs (gMakeM 5 F_Token_init []) (aCons (eC (.str "keyword")) (aCons (eVar 4) (aCons (eVar 1) (aCons (eVar 2) aNil)))))) sNext)
    (sSeq (sIf (tNotM (tOfE (eChain gLe gLe (eC (.int 1)) (eArgs (g1 gLen) (aCons (eVar 4) aNil)) (eC (.int 8))))) (sRaise "SyntaxFault" ["line", "column"] (aCons (eVar 1) (aCons (eVar 2) aNil))) sNext)
    (sRet (eArgs (gMakeM 5 F_Token_init []) (aCons (eC (.str "name")) (aCons (eVar 4) (aCons (eVar 1) (aCons (eVar 2) aNil))))))))))))
noncomputable def F_read_token : PF := asP 5 b_read_token
noncomputable def c1_tokenize : MT := (tBin gLt (eVar 5) (eArgs (g1 gLen) (aCons (eVar 4) aNil)))
noncomputable def l1_tokenize : MS := (sIf (tBin (gInB false) (eBin gIx (eVar 4) (eVar 5)) (eC (.str " \n"))) (sAug 5 gAddI (eC (.int 1))) (sSeq (sSet 6 (eArgs (gCallP 3 F_read_token []) (aCons (eVar 4) (aCons (eVar 3) (aCons (eVar 5) aNil)))))
    (sSeq (sExpr (eBM "list" gAppend (eVar 1) (aCons (eVar 6) aNil)))
    (sAug 5 gAddI (eArgs (g1 gLen) (aCons (eFld ["Token"] "text" (eVar 6)) aNil))))))
noncomputable def l2_tokenize : MS := (sSeq (sSet 5 (eC (.int 0)))
    (sWhile c1_tokenize l1_tokenize))
noncomputable def b_tokenize : MS := (sSeq (sSet 1 (eArgs gLstO aNil))
    (sSeq (sSet 2 (eBM "str" gSplit (eVar 0) (aCons (eC (.str "\n")) aNil)))
    (sSeq (sFor (iArgs gEnum (aCons (eVar 2) aNil)) (tgTup 2 (tgCons (tgName 3) (tgCons (tgName 4) tgNil))) l2_tokenize)
    (sRet (eBin gAdd (eVar 1) (eArgs gLst (aCons (eArgs (gMakeM 5 F_Token_init []) (aCons (eC (.str "end")) (aCons (eC (.str "")) (aCons (eArgs (g1 gLen) (aCons (eVar 2) aNil)) (aCons (eC (.int 0)) aNil))))) aNil)))))))
noncomputable def F_tokenize : PF := asP 7 b_tokenize
noncomputable def b_Plan_init : MS := (sSeq (sFldSet ["Plan"] "length" (eVar 0) (eVar 1))
    (sSeq (sFldSet ["Plan"] "most" (eVar 0) (eVar 2))
    (sSeq (sFldSet ["Plan"] "names" (eVar 0) (eVar 3))
    (sSeq (sFldSet ["Plan"] "starts" (eVar 0) (eVar 4))
    (sSeq (sFldSet ["Plan"] "paused" (eVar 0) (eVar 5))
    (sFldSet ["Plan"] "ranks" (eVar 0) (eVar 6)))))))
noncomputable def F_Plan_init : PF := asM "Plan" 7 b_Plan_init
noncomputable def b_Parser_init : MS := (sSeq (sFldSet ["Parser"] "tokens" (eVar 0) (eVar 1))
    (sSeq (sFldSet ["Parser"] "at" (eVar 0) (eC (.int 0)))
    (sSeq (sFldSet ["Parser"] "faults" (eVar 0) (eArgs gLstO aNil))
    (sSeq (sFldSet ["Parser"] "names" (eVar 0) (eArgs gLstO aNil))
    (sSeq (sFldSet ["Parser"] "starts" (eVar 0) (eArgs gLstO aNil))
    (sSeq (sFldSet ["Parser"] "pauses" (eVar 0) (eArgs gLstO aNil))
    (sFldSet ["Parser"] "ranks" (eVar 0) (eC .non))))))))
noncomputable def F_Parser_init : OF := asK 2 b_Parser_init
noncomputable def b_Parser_peek : MS := (sRet (eBin gIx (eFld ["Parser"] "tokens" (eVar 0)) (eFld ["Parser"] "at" (eVar 0))))
noncomputable def F_Parser_peek : OF := asC 1 b_Parser_peek
noncomputable def b_Parser_fail : MS := (sSeq (sSet 1 (eMeth ["Parser"] "peek" (gCallO 1 F_Parser_peek []) (eVar 0) aNil))
    (sRaise "SyntaxFault" ["line", "column"] (aCons (eFld ["Token"] "line" (eVar 1)) (aCons (eFld ["Token"] "column" (eVar 1)) aNil))))
noncomputable def F_Parser_fail : OF := asC 2 b_Parser_fail
noncomputable def b_Parser_found : MS := (sExpr (eBM "list" gAppend (eFld ["Parser"] "faults" (eVar 0)) (aCons (eArgs gTup (aCons (eFld ["Token"] "line" (eVar 2)) (aCons (eFld ["Token"] "column" (eVar 2)) (aCons (eArgs (g1 gLen) (aCons (eFld ["Parser"] "faults" (eVar 0)) aNil)) (aCons (eVar 1) aNil))))) aNil)))
noncomputable def F_Parser_found : OF := asC 3 b_Parser_found
noncomputable def b_Parser_take : MS := (sSeq (sSet 2 (eMeth ["Parser"] "peek" (gCallO 1 F_Parser_peek []) (eVar 0) aNil))
    (sSeq (sIf (tBin gNe (eFld ["Token"] "kind" (eVar 2)) (eVar 1)) (sExpr (eMeth ["Parser"] "fail" (gCallO 1 F_Parser_fail []) (eVar 0) aNil)) sNext)
    (sSeq (sFldAug ["Parser"] "at" gAddI (eVar 0) (eC (.int 1)))
    (sRet (eVar 2)))))
noncomputable def F_Parser_take : OF := asC 3 b_Parser_take
noncomputable def b_Parser_take_word : MS := (sSeq (sIf (tBin gNe (eFld ["Token"] "text" (eMeth ["Parser"] "peek" (gCallO 1 F_Parser_peek []) (eVar 0) aNil)) (eVar 1)) (sExpr (eMeth ["Parser"] "fail" (gCallO 1 F_Parser_fail []) (eVar 0) aNil)) sNext)
    (sFldAug ["Parser"] "at" gAddI (eVar 0) (eC (.int 1))))
noncomputable def F_Parser_take_word : OF := asC 2 b_Parser_take_word
noncomputable def c1_Parser_take_names : MT := (tBin gEq (eFld ["Token"] "kind" (eMeth ["Parser"] "peek" (gCallO 1 F_Parser_peek []) (eVar 0) aNil)) (eC (.str "name")))
noncomputable def l1_Parser_take_names : MS := (sExpr (eBM "list" gAppend (eVar 1) (aCons (eMeth ["Parser"] "take" (gCallO 2 F_Parser_take []) (eVar 0) (aCons (eC (.str "name")) aNil)) aNil)))
noncomputable def b_Parser_take_names : MS := (sSeq (sSet 1 (eArgs gLstO (aCons (eMeth ["Parser"] "take" (gCallO 2 F_Parser_take []) (eVar 0) (aCons (eC (.str "name")) aNil)) aNil)))
    (sSeq (sWhile c1_Parser_take_names l1_Parser_take_names)
    (sSeq (sExpr (eMeth ["Parser"] "take_word" (gCallO 2 F_Parser_take_word []) (eVar 0) (aCons (eC (.str ";")) aNil)))
    (sRet (eFrz (eVar 1))))))
noncomputable def F_Parser_take_names : OF := asC 2 b_Parser_take_names
noncomputable def b_Parser_valve : MS := (sSeq (sIf (tBin (gInB false) (eFld ["Token"] "text" (eVar 1)) (eFld ["Parser"] "names" (eVar 0))) (sRet (eBM "list" gIndex (eFld ["Parser"] "names" (eVar 0)) (aCons (eFld ["Token"] "text" (eVar 1)) aNil))) sNext)
    (sSeq (sExpr (eMeth ["Parser"] "found" (gCallO 3 F_Parser_found []) (eVar 0) (aCons (eC (.str "unknown")) (aCons (eVar 1) aNil))))
    (sRet (eC (.int 0)))))
noncomputable def F_Parser_valve : OF := asC 2 b_Parser_valve
noncomputable def b_Parser_parse_number : MS := (sSeq (sExpr (eMeth ["Parser"] "take_word" (gCallO 2 F_Parser_take_word []) (eVar 0) (aCons (eVar 1) aNil)))
    (sSeq (sSet 3 (eMeth ["Parser"] "take" (gCallO 2 F_Parser_take []) (eVar 0) (aCons (eC (.str "number")) aNil)))
    (sSeq (sExpr (eMeth ["Parser"] "take_word" (gCallO 2 F_Parser_take_word []) (eVar 0) (aCons (eC (.str ";")) aNil)))
    (sSeq (sIf (tNotM (tOfE (eChain gLe gLe (eC (.int 1)) (eArgs (g1 gInt) (aCons (eFld ["Token"] "text" (eVar 3)) aNil)) (eVar 2)))) (sExpr (eMeth ["Parser"] "found" (gCallO 3 F_Parser_found []) (eVar 0) (aCons (eVar 1) (aCons (eVar 3) aNil)))) sNext)
    (sRet (eArgs (g1 gInt) (aCons (eFld ["Token"] "text" (eVar 3)) aNil)))))))
noncomputable def F_Parser_parse_number : OF := asC 4 b_Parser_parse_number
noncomputable def l1_Parser_parse_valves : MS := (sIf (tBin (gInB false) (eFld ["Token"] "text" (eVar 1)) (eFld ["Parser"] "names" (eVar 0))) (sExpr (eMeth ["Parser"] "found" (gCallO 3 F_Parser_found []) (eVar 0) (aCons (eC (.str "duplicate")) (aCons (eVar 1) aNil)))) (sIf (tBin gEq (eArgs (g1 gLen) (aCons (eFld ["Parser"] "names" (eVar 0)) aNil)) (eC (.int 8))) (sExpr (eMeth ["Parser"] "found" (gCallO 3 F_Parser_found []) (eVar 0) (aCons (eC (.str "valves")) (aCons (eVar 1) aNil)))) (sExpr (eBM "list" gAppend (eFld ["Parser"] "names" (eVar 0)) (aCons (eFld ["Token"] "text" (eVar 1)) aNil)))))
noncomputable def b_Parser_parse_valves : MS := (sSeq (sExpr (eMeth ["Parser"] "take_word" (gCallO 2 F_Parser_take_word []) (eVar 0) (aCons (eC (.str "valves")) aNil)))
    (sFor (iOf (eMeth ["Parser"] "take_names" (gCallO 1 F_Parser_take_names []) (eVar 0) aNil)) (tgName 1) l1_Parser_parse_valves))
noncomputable def F_Parser_parse_valves : OF := asC 2 b_Parser_parse_valves
noncomputable def b_Parser_parse_start : MS := (sSeq (sSet 2 (eMeth ["Parser"] "peek" (gCallO 1 F_Parser_peek []) (eVar 0) aNil))
    (sSeq (sExpr (eMeth ["Parser"] "take_word" (gCallO 2 F_Parser_take_word []) (eVar 0) (aCons (eC (.str "start")) aNil)))
    (sSeq (sSet 3 (eMeth ["Parser"] "valve" (gCallO 2 F_Parser_valve []) (eVar 0) (aCons (eMeth ["Parser"] "take" (gCallO 2 F_Parser_take []) (eVar 0) (aCons (eC (.str "name")) aNil)) aNil)))
    (sSeq (sSet 4 (eMeth ["Parser"] "take" (gCallO 2 F_Parser_take []) (eVar 0) (aCons (eC (.str "number")) aNil)))
    (sSeq (sExpr (eMeth ["Parser"] "take_word" (gCallO 2 F_Parser_take_word []) (eVar 0) (aCons (eC (.str "for")) aNil)))
    (sSeq (sSet 5 (eMeth ["Parser"] "take" (gCallO 2 F_Parser_take []) (eVar 0) (aCons (eC (.str "number")) aNil)))
    (sSeq (sExpr (eMeth ["Parser"] "take_word" (gCallO 2 F_Parser_take_word []) (eVar 0) (aCons (eC (.str ";")) aNil)))
    (sSeq (sIf (tBin gGe (eArgs (g1 gInt) (aCons (eFld ["Token"] "text" (eVar 4)) aNil)) (eVar 1)) (sExpr (eMeth ["Parser"] "found" (gCallO 3 F_Parser_found []) (eVar 0) (aCons (eC (.str "tick")) (aCons (eVar 4) aNil)))) sNext)
    (sSeq (sIf (tNotM (tOfE (eChain gLe gLe (eC (.int 1)) (eArgs (g1 gInt) (aCons (eFld ["Token"] "text" (eVar 5)) aNil)) (eC (.int 30))))) (sExpr (eMeth ["Parser"] "found" (gCallO 3 F_Parser_found []) (eVar 0) (aCons (eC (.str "length")) (aCons (eVar 5) aNil)))) sNext)
    (sSeq (sIf (tBin gEq (eArgs (g1 gLen) (aCons (eFld ["Parser"] "starts" (eVar 0)) aNil)) (eC (.int 20))) (sExpr (eMeth ["Parser"] "found" (gCallO 3 F_Parser_found []) (eVar 0) (aCons (eC (.str "starts")) (aCons (eVar 2) aNil)))) sNext)
    (sExpr (eBM "list" gAppend (eFld ["Parser"] "starts" (eVar 0)) (aCons (eArgs gTup (aCons (eArgs (g1 gInt) (aCons (eFld ["Token"] "text" (eVar 4)) aNil)) (aCons (eVar 3) (aCons (eArgs (g1 gInt) (aCons (eFld ["Token"] "text" (eVar 5)) aNil)) aNil)))) aNil)))))))))))))
noncomputable def F_Parser_parse_start : OF := asC 6 b_Parser_parse_start
noncomputable def b_Parser_parse_pause : MS := (sSeq (sExpr (eMeth ["Parser"] "take_word" (gCallO 2 F_Parser_take_word []) (eVar 0) (aCons (eC (.str "pause")) aNil)))
    (sSeq (sPar 2 3 (aCons (eMeth ["Parser"] "take" (gCallO 2 F_Parser_take []) (eVar 0) (aCons (eC (.str "number")) aNil)) (aCons (eMeth ["Parser"] "take" (gCallO 2 F_Parser_take []) (eVar 0) (aCons (eC (.str "number")) aNil)) aNil)))
    (sSeq (sExpr (eMeth ["Parser"] "take_word" (gCallO 2 F_Parser_take_word []) (eVar 0) (aCons (eC (.str ";")) aNil)))
    (sSeq (sIf (tBin gGe (eArgs (g1 gInt) (aCons (eFld ["Token"] "text" (eVar 3)) aNil)) (eVar 1)) (sExpr (eMeth ["Parser"] "found" (gCallO 3 F_Parser_found []) (eVar 0) (aCons (eC (.str "pause")) (aCons (eVar 3) aNil)))) (sIf (tBin gGt (eArgs (g1 gInt) (aCons (eFld ["Token"] "text" (eVar 2)) aNil)) (eArgs (g1 gInt) (aCons (eFld ["Token"] "text" (eVar 3)) aNil))) (sExpr (eMeth ["Parser"] "found" (gCallO 3 F_Parser_found []) (eVar 0) (aCons (eC (.str "pause")) (aCons (eVar 2) aNil)))) sNext))
    (sExpr (eBM "list" gAppend (eFld ["Parser"] "pauses" (eVar 0)) (aCons (eArgs gTup (aCons (eArgs (g1 gInt) (aCons (eFld ["Token"] "text" (eVar 2)) aNil)) (aCons (eArgs (g1 gInt) (aCons (eFld ["Token"] "text" (eVar 3)) aNil)) aNil))) aNil)))))))
noncomputable def F_Parser_parse_pause : OF := asC 4 b_Parser_parse_pause
noncomputable def l1_Parser_parse_rank : MS := (sSeq (sSet 4 (eMeth ["Parser"] "valve" (gCallO 2 F_Parser_valve []) (eVar 0) (aCons (eVar 3) aNil)))
    (sSeq (sIf (tAndM (tBin (gInB false) (eFld ["Token"] "text" (eVar 3)) (eFld ["Parser"] "names" (eVar 0))) (tBin (gInB false) (eVar 4) (eVar 2))) (sExpr (eMeth ["Parser"] "found" (gCallO 3 F_Parser_found []) (eVar 0) (aCons (eC (.str "rank")) (aCons (eVar 3) aNil)))) sNext)
    (sExpr (eBM "list" gAppend (eVar 2) (aCons (eVar 4) aNil)))))
noncomputable def b_Parser_parse_rank : MS := (sSeq (sSet 1 (eMeth ["Parser"] "peek" (gCallO 1 F_Parser_peek []) (eVar 0) aNil))
    (sSeq (sExpr (eMeth ["Parser"] "take_word" (gCallO 2 F_Parser_take_word []) (eVar 0) (aCons (eC (.str "rank")) aNil)))
    (sSeq (sSet 2 (eArgs gLstO aNil))
    (sSeq (sFor (iOf (eMeth ["Parser"] "take_names" (gCallO 1 F_Parser_take_names []) (eVar 0) aNil)) (tgName 3) l1_Parser_parse_rank)
    (sSeq (sIf (tBin (gIsN true) (eFld ["Parser"] "ranks" (eVar 0)) (eC .non)) (sExpr (eMeth ["Parser"] "found" (gCallO 3 F_Parser_found []) (eVar 0) (aCons (eC (.str "twice")) (aCons (eVar 1) aNil)))) sNext)
    (sFldSet ["Parser"] "ranks" (eVar 0) (eFrz (eVar 2))))))))
noncomputable def F_Parser_parse_rank : OF := asC 5 b_Parser_parse_rank
noncomputable def t1_Parser_parse_plan : MT := (tBin (gInB true) (eVar 12) (eVar 11))
noncomputable def e1_Parser_parse_plan : ME := (eVar 12)
noncomputable def e2_Parser_parse_plan : ME := (eChain gLe gLe (eVar 8) (eVar 10) (eVar 9))
noncomputable def e3_Parser_parse_plan : ME := (eArgs (g1 (gAnyAll fun l => l.any id)) (aCons (eLc [8, 9] (iOf (eFld ["Parser"] "pauses" (eVar 0))) (tgTup 2 (tgCons (tgName 8) (tgCons (tgName 9) tgNil))) tTrue e2_Parser_parse_plan) aNil))
noncomputable def l1_runs_of : MS := (sIf (tAndM (tOfE (eVar 3)) (tAndM (tBin gGt (eVar 2) (eC (.int 0))) (tOfE (eBin gIx (eVar 0) (eBin gSub (eVar 2) (eC (.int 1))))))) (sSetItem (eVar 1) (eNeg (eC (.int 1))) (eArgs gTup (aCons (eBin gIx (eBin gIx (eVar 1) (eNeg (eC (.int 1)))) (eC (.int 0))) (aCons (eVar 2) aNil)))) (sIf (tOfE (eVar 3)) (sExpr (eBM "list" gAppend (eVar 1) (aCons (eArgs gTup (aCons (eVar 2) (aCons (eVar 2) aNil))) aNil))) sNext))
noncomputable def b_runs_of : MS := (sSeq (sSet 1 (eArgs gLstO aNil))
    (sSeq (sFor (iArgs gEnum (aCons (eVar 0) aNil)) (tgTup 2 (tgCons (tgName 2) (tgCons (tgName 3) tgNil))) l1_runs_of)
    (sRet (eVar 1))))
noncomputable def F_runs_of : PF := asP 4 b_runs_of
noncomputable def l1_format_parsed : MS := (sExpr (eBM "list" gAppend (eVar 2) (aCons (eBin gAdd (eBin gAdd (eBin gAdd (eBin gAdd (eC (.str "pause ")) (eArgs (g1 gStr) (aCons (eVar 6) aNil))) (eC (.str " "))) (eArgs (g1 gStr) (aCons (eVar 7) aNil))) (eC (.str ";"))) aNil)))
noncomputable def l2_format_parsed : MS := (sExpr (eBM "list" gAppend (eVar 2) (aCons (eBin gAdd (eBin gAdd (eBin gAdd (eBin gAdd (eBin gAdd (eBin gAdd (eC (.str "start ")) (eBin gIx (eVar 1) (eVar 3))) (eC (.str " "))) (eArgs (g1 gStr) (aCons (eVar 4) aNil))) (eC (.str " for "))) (eArgs (g1 gStr) (aCons (eVar 5) aNil))) (eC (.str ";"))) aNil)))
noncomputable def e1_format_parsed : ME := (eBin gIx (eVar 1) (eVar 3))
noncomputable def b_format_parsed : MS := (sSeq (sSet 1 (eFld ["Plan"] "names" (eVar 0)))
    (sSeq (sSet 2 (eArgs gLstO (aCons (eBin gAdd (eBin gAdd (eC (.str "round ")) (eArgs (g1 gStr) (aCons (eFld ["Plan"] "length" (eVar 0)) aNil))) (eC (.str ";"))) (aCons (eBin gAdd (eBin gAdd (eC (.str "open ")) (eArgs (g1 gStr) (aCons (eFld ["Plan"] "most" (eVar 0)) aNil))) (eC (.str ";"))) (aCons (eBin gAdd (eBin gAdd (eC (.str "valves ")) (eBM "str" gJoin (eC (.str " ")) (aCons (eVar 1) aNil))) (eC (.str ";"))) aNil)))))
    (sSeq (sIf (tBin gNe (eFld ["Plan"] "ranks" (eVar 0)) (eLRg1 (eArgs (g1 gLen) (aCons (eVar 1) aNil)))) (sExpr (eBM "list" gAppend (eVar 2) (aCons (eBin gAdd (eBin gAdd (eC (.str "rank ")) (eBM "str" gJoin (eC (.str " ")) (aCons (eLc [3] (iOf (eFld ["Plan"] "ranks" (eVar 0))) (tgName 3) tTrue e1_format_parsed) aNil))) (eC (.str ";"))) aNil))) sNext)
    (sSeq (sFor (iOf (eFld ["Plan"] "starts" (eVar 0))) (tgTup 3 (tgCons (tgName 4) (tgCons (tgName 3) (tgCons (tgName 5) tgNil)))) l2_format_parsed)
    (sSeq (sFor (iOf (eArgs (gCallP 1 F_runs_of []) (aCons (eFld ["Plan"] "paused" (eVar 0)) aNil))) (tgTup 2 (tgCons (tgName 6) (tgCons (tgName 7) tgNil))) l1_format_parsed)
    (sRet (eBM "str" gJoin (eC (.str "\n")) (aCons (eVar 2) aNil))))))))
noncomputable def F_format_parsed : PF := asP 8 b_format_parsed
end G
namespace Cl
open PySem L2
@[simp] theorem ofString_inj (a b : String) : (Str.ofString a = Str.ofString b) = (a = b) := by
  apply propext
  refine ⟨fun h => ?_, fun h => by rw [h]⟩
  have h2 := congrArg (fun z : Str => z.cps.toList) h
  simp only [PyProof.Rows.signs_ofString] at h2
  have h3 : a.toList = b.toList := by
    have inj : ∀ (x y : List Char), x.map Char.toNat = y.map Char.toNat → x = y := by
      intro x
      induction x with
      | nil => intro y e; cases y with | nil => rfl | cons _ _ => cases e
      | cons c x ih =>
        intro y e
        cases y with
        | nil => cases e
        | cons d y =>
          simp only [List.map_cons, List.cons.injEq] at e
          rw [ih y e.2, Char.toNat_inj.mp e.1]
    exact inj _ _ h2
  exact String.toList_inj.mp h3
@[simp] theorem ofString_beq (a b : String) : (Str.ofString a == Str.ofString b) = (a == b) := by
  rw [Bool.eq_iff_iff, beq_iff_eq, beq_iff_eq, ofString_inj]
@[simp] theorem lookup_c {β : Type} (a b : Str) (x : β) (l : List (Str × β)) : List.lookup a ((b, x) :: l) = if a = b then some x else List.lookup a l := by
  rw [List.lookup_cons]
  by_cases h : a = b
  · subst h; simp
  · have : (a == b) = false := by rw [beq_eq_false_iff_ne]; exact h
    rw [this, if_neg h]
theorem while_eq (c : MT) (b : MS) (sl : Sl) (st : List O) : sWhile c b sl st = match c sl st with
    | none => none
    | some (.error x, st1) => some (.xc x, sl, st1)
    | some (.ok false, st1) => some (.nx, sl, st1)
    | some (.ok true, st1) => match b sl st1 with
      | some (.nx, sl2, st2) => sWhile c b sl2 st2
      | some (.ct, sl2, st2) => sWhile c b sl2 st2
      | some (.bk, sl2, st2) => some (.nx, sl2, st2)
      | r => r := by
  have go : ∀ r, (match c sl st with
    | none => none
    | some (.error x, st1) => some (.xc x, sl, st1)
    | some (.ok false, st1) => some (.nx, sl, st1)
    | some (.ok true, st1) => match b sl st1 with
      | some (.nx, sl2, st2) => sWhile c b sl2 st2
      | some (.ct, sl2, st2) => sWhile c b sl2 st2
      | some (.bk, sl2, st2) => some (.nx, sl2, st2)
      | r => r : Option (Fl × Sl × List O)) = some r → sWhile c b sl st = some r := by
    intro r h
    match q : c sl st with
    | none => rw [q] at h; cases h
    | some (.error x, st1) => rw [q] at h; exact sWhile_of (n := 1) (by rw [whileN, q]; exact h)
    | some (.ok false, st1) => rw [q] at h; exact sWhile_of (n := 1) (by rw [whileN, q]; exact h)
    | some (.ok true, st1) =>
      rw [q] at h
      match q2 : b sl st1 with
      | none => simp only [q2] at h; cases h
      | some (.nx, sl2, st2) =>
        simp only [q2] at h
        obtain ⟨n, hn⟩ := of_sWhile h
        exact sWhile_of (n := n + 1) (by rw [whileN, q]; simp only [q2]; exact hn)
      | some (.ct, sl2, st2) =>
        simp only [q2] at h
        obtain ⟨n, hn⟩ := of_sWhile h
        exact sWhile_of (n := n + 1) (by rw [whileN, q]; simp only [q2]; exact hn)
      | some (.bk, sl2, st2) => simp only [q2] at h; exact sWhile_of (n := 1) (by rw [whileN, q]; simp only [q2]; exact h)
      | some (.rt d, sl2, st2) => simp only [q2] at h; exact sWhile_of (n := 1) (by rw [whileN, q]; simp only [q2]; exact h)
      | some (.xc d, sl2, st2) => simp only [q2] at h; exact sWhile_of (n := 1) (by rw [whileN, q]; simp only [q2]; exact h)
  have back : ∀ r, sWhile c b sl st = some r → (match c sl st with
    | none => none
    | some (.error x, st1) => some (.xc x, sl, st1)
    | some (.ok false, st1) => some (.nx, sl, st1)
    | some (.ok true, st1) => match b sl st1 with
      | some (.nx, sl2, st2) => sWhile c b sl2 st2
      | some (.ct, sl2, st2) => sWhile c b sl2 st2
      | some (.bk, sl2, st2) => some (.nx, sl2, st2)
      | r => r : Option (Fl × Sl × List O)) = some r := by
    intro r h
    obtain ⟨n, hn⟩ := of_sWhile h
    cases n with
    | zero => cases hn
    | succ n =>
      rw [whileN] at hn
      match q : c sl st with
      | none => rw [q] at hn; cases hn
      | some (.error x, st1) => rw [q] at hn; exact hn
      | some (.ok false, st1) => rw [q] at hn; exact hn
      | some (.ok true, st1) =>
        rw [q] at hn
        match q2 : b sl st1 with
        | none => simp only [q2] at hn; cases hn
        | some (.nx, sl2, st2) => simp only [q2] at hn ⊢; exact sWhile_of hn
        | some (.ct, sl2, st2) => simp only [q2] at hn ⊢; exact sWhile_of hn
        | some (.bk, sl2, st2) => simp only [q2] at hn ⊢; exact hn
        | some (.rt d, sl2, st2) => simp only [q2] at hn ⊢; exact hn
        | some (.xc d, sl2, st2) => simp only [q2] at hn ⊢; exact hn
  exact Option.ext fun r => ⟨fun h => back r h, fun h => go r h⟩
/-- a while that goes on -/
theorem while_go {c : MT} {b : MS} {sl sl2 : Sl} {st st1 st2 : List O} (h1 : c sl st = some (.ok true, st1)) (h2 : b sl st1 = some (.nx, sl2, st2)) : sWhile c b sl st = sWhile c b sl2 st2 := by
  rw [while_eq, h1]; simp only [h2]
theorem while_stop {c : MT} {b : MS} {sl : Sl} {st st1 : List O} (h1 : c sl st = some (.ok false, st1)) : sWhile c b sl st = some (.nx, sl, st1) := by
  rw [while_eq, h1]
theorem for_nil {C : List O → Prop} {g : MG} {b : MS} {sl : Sl} {st : List O} (h : C st) : forL C g b [] sl st = some (.nx, sl, st) := by rw [forL, if_pos h]
theorem for_cons {C : List O → Prop} {g : MG} {b : MS} {d : S} {ds : List S} {sl sl1 sl2 : Sl} {st st1 st2 : List O} (h : C st) (h1 : g d sl st = some (sl1, st1)) (h2 : b sl1 st1 = some (.nx, sl2, st2)) : forL C g b (d :: ds) sl st = forL C g b ds sl2 st2 := by
  rw [forL, if_pos h, h1]; simp only [h2]
/-- a comprehension that changes nothing -/
theorem lc_map {C : List O → Prop} {g : MG} {t : MT} {e : ME} {sl : Sl} {st : List O} (sl1 : S → Sl) (p : S → Bool) (f : S → D) (hC : C st) : ∀ (ds : List S) (acc : List D), (∀ d ∈ ds, g d sl st = some (sl1 d, st)) → (∀ d ∈ ds, t (sl1 d) st = some (.ok (p d), st)) →
    (∀ d ∈ ds, p d = true → e (sl1 d) st = some (.ok (.val (f d)), st)) → acc.length + ds.length ≤ sizeLine → lcL C g t e sl ds acc st = some (acc ++ (ds.filter p).map f, st)
  | [], acc, _, _, _, _ => by rw [lcL, if_pos hC]; simp
  | d :: ds, acc, h1, h2, h3, hl => by
    simp only [List.length_cons] at hl
    rw [lcL, if_pos hC, h1 d List.mem_cons_self]
    simp only
    rw [h2 d List.mem_cons_self]
    cases hp : p d with
    | false =>
      simp only
      rw [lc_map sl1 p f hC ds acc (fun d hd => h1 d (List.mem_cons_of_mem _ hd)) (fun d hd => h2 d (List.mem_cons_of_mem _ hd)) (fun d hd => h3 d (List.mem_cons_of_mem _ hd)) (by omega)]
      simp [hp]
    | true =>
      simp only
      have := h3 d List.mem_cons_self hp
      simp only [M.bind, this, toD, M.pure]
      rw [if_pos (by omega), lc_map sl1 p f hC ds (acc ++ [f d]) (fun d hd => h1 d (List.mem_cons_of_mem _ hd)) (fun d hd => h2 d (List.mem_cons_of_mem _ hd)) (fun d hd => h3 d (List.mem_cons_of_mem _ hd)) (by simp; omega)]
      simp [hp]
theorem lc_all {C : List O → Prop} {g : MG} {e : ME} {sl : Sl} {st : List O} (sl1 : S → Sl) (f : S → D) (hC : C st) (ds : List S) (h1 : ∀ d ∈ ds, g d sl st = some (sl1 d, st)) (h3 : ∀ d ∈ ds, e (sl1 d) st = some (.ok (.val (f d)), st)) (hl : ds.length ≤ sizeLine) :
    lcL C g tTrue e sl ds [] st = some (ds.map f, st) := by
  rw [lc_map sl1 (fun _ => true) f hC ds [] h1 (fun d _ => rfl) (fun d hd _ => h3 d hd) (by simpa using hl)]
  rw [List.nil_append, List.filter_eq_self.mpr (by simp)]
theorem atI_nat {α : Type} {l : List α} {i : Nat} {x : α} (h : l[i]? = some x) : atI l (i : Int) = some x := by
  have hl : i < l.length := (List.getElem?_eq_some_iff.mp h).1
  unfold atI ixN
  rw [if_pos (by omega), if_pos (by omega)]
  simpa using h
theorem atI_last {α : Type} {l : List α} {x : α} : atI (l ++ [x]) (-1) = some x := by
  unfold atI ixN
  have e : (-1 + (((l ++ [x]).length : Nat) : Int)).toNat = l.length := by simp; omega
  rw [if_neg (by omega), if_pos (by simp; omega), e]
  simp
@[simp] theorem all_below (n : Nat) (l : List D) : (l.map S.val).all (belowS n) = true := by
  induction l with
  | nil => rfl
  | cons a l ih => simp
@[simp] theorem datas_val (l : List D) : datas (l.map S.val) = some l := datas_map l
@[simp] theorem datas_comp {α : Type} (f : α → D) (l : List α) : datas (l.map (S.val ∘ f)) = some (l.map f) := by rw [← List.map_map]; exact datas_map _
end Cl
namespace G
open PySem L2 Cl
abbrev tokD (k t : Str) (l c : Int) : D := .ins "Token" [("kind", .str k), ("text", .str t), ("line", .int l), ("column", .int c)]
theorem str_eqv (a b : Str) : PyData.eqv (.str a) (.str b) = decide (a = b) := by simp [PyData.eqv]; exact Bool.eq_iff_iff.mpr (by simp)
theorem shaped_str {a : Str} (h : PyData.strOk a = true) : SeqAt.shaped (.str a) = true := by
  unfold SeqAt.shaped
  rw [show (PyData.str a).canLay0 = PyData.strOk a from rfl, h]; rfl
@[simp] theorem strOk_lit (s : String) : PyData.strOk (Str.ofString s) = true := by
  unfold PyData.strOk
  rw [← Array.all_toList, PyProof.Rows.signs_ofString]
  simp only [List.all_map, List.all_eq_true, Function.comp, decide_eq_true_eq]
  intro c _
  have := c.valid
  rcases this with h | h
  · exact Nat.lt_trans h (by decide)
  · exact h.2
theorem gNe_str {a b : Str} (st : List O) (ha : PyData.strOk a = true) (hb : PyData.strOk b = true) : gNe (.val (.str a)) (.val (.str b)) st = some (.ok (.val (.bl (!decide (a = b)))), st) := by
  simp [gNe, gEqB, toPS, toP, shaped_str ha, shaped_str hb, str_eqv]
theorem gEq_str {a b : Str} (st : List O) (ha : PyData.strOk a = true) (hb : PyData.strOk b = true) : gEq (.val (.str a)) (.val (.str b)) st = some (.ok (.val (.bl (decide (a = b)))), st) := by
  simp [gEq, gEqB, toPS, toP, shaped_str ha, shaped_str hb, str_eqv]
theorem sz {n : Nat} (h : n ≤ 1000) : n < sizeLine := by rw [sizeLine_eq]; omega
structure PS where
  i : Nat
  fa : List D
  na : List D
  sts : List D
  pa : List D
  r : D
def PSt (toks : List D) (p : PS) (ex : List O) : List O := .ins "Parser" [("tokens", .val (.lst toks)), ("at", .val (.int p.i)), ("faults", .obj 1), ("names", .obj 2), ("starts", .obj 3), ("pauses", .obj 4), ("ranks", .val p.r)] ::
  .lst (p.fa.map .val) :: .lst (p.na.map .val) :: .lst (p.sts.map .val) :: .lst (p.pa.map .val) :: ex
def exOk (ex : List O) : Prop := ex.all (belowO (ex.length + 5)) = true
variable {toks : List D} {p : PS} {ex ys : List O} {k t : Str} {l c : Int}
@[simp] theorem P_len : (PSt toks p ex).length = ex.length + 5 := rfl
@[simp] theorem P_app (o : List O) : PSt toks p ex ++ o = PSt toks p (ex ++ o) := rfl
@[simp high] theorem P_0 : (PSt toks p ex)[0]? = some (O.ins "Parser" [("tokens", .val (.lst toks)), ("at", .val (.int p.i)), ("faults", .obj 1), ("names", .obj 2), ("starts", .obj 3), ("pauses", .obj 4), ("ranks", .val p.r)]) := rfl
@[simp high] theorem P_1 : (PSt toks p ex)[1]? = some (.lst (p.fa.map .val)) := rfl
@[simp high] theorem P_2 : (PSt toks p ex)[2]? = some (.lst (p.na.map .val)) := rfl
@[simp high] theorem P_3 : (PSt toks p ex)[3]? = some (.lst (p.sts.map .val)) := rfl
@[simp high] theorem P_4 : (PSt toks p ex)[4]? = some (.lst (p.pa.map .val)) := rfl
@[simp high] theorem P_5 (n : Nat) : (PSt toks p ex)[n + 5]? = ex[n]? := rfl
@[simp] theorem P_set2 (x : List S) (d : List D) (h : x = d.map .val) : (PSt toks p ex).set 2 (.lst x) = PSt toks { p with na := d } ex := by rw [h]; rfl
@[simp] theorem P_set3 (x : List S) (d : List D) (h : x = d.map .val) : (PSt toks p ex).set 3 (.lst x) = PSt toks { p with sts := d } ex := by rw [h]; rfl
@[simp] theorem P_set4 (x : List S) (d : List D) (h : x = d.map .val) : (PSt toks p ex).set 4 (.lst x) = PSt toks { p with pa := d } ex := by rw [h]; rfl
@[simp] theorem P_set5 (n : Nat) (o : O) : (PSt toks p ex).set (n + 5) o = PSt toks p (ex.set n o) := rfl
@[simp] theorem P_set0 (n : Nat) : (PSt toks p ex).set 0 (O.ins "Parser" [("tokens", .val (.lst toks)), ("at", .val (.int n)), ("faults", .obj 1), ("names", .obj 2), ("starts", .obj 3), ("pauses", .obj 4), ("ranks", .val p.r)]) = PSt toks { p with i := n } ex := rfl
@[simp] theorem P_set0' (n : Nat) : (PSt toks p ex).set 0 (O.ins "Parser" [("tokens", .val (.lst toks)), ("at", .val (.int ((n : Int) + 1))), ("faults", .obj 1), ("names", .obj 2), ("starts", .obj 3), ("pauses", .obj 4), ("ranks", .val p.r)]) = PSt toks { p with i := n + 1 } ex := rfl
@[simp] theorem P_set0r (d : D) : (PSt toks p ex).set 0 (O.ins "Parser" [("tokens", .val (.lst toks)), ("at", .val (.int p.i)), ("faults", .obj 1), ("names", .obj 2), ("starts", .obj 3), ("pauses", .obj 4), ("ranks", .val d)]) = PSt toks { p with r := d } ex := rfl
theorem P_cut (hx : exOk ex) : ex.length + 5 ≤ (PSt toks p (ex ++ ys)).length ∧ ((PSt toks p (ex ++ ys)).take (ex.length + 5)).all (belowO (ex.length + 5)) = true := by
  unfold exOk at hx
  refine ⟨by simp, ?_⟩
  simp [PSt, hx]
theorem P_take : (PSt toks p (ex ++ ys)).take (ex.length + 5) = PSt toks p ex := by simp [PSt]
theorem P_cut0 (hx : exOk ex) : ex.length + 5 ≤ (PSt toks p ex).length ∧ ((PSt toks p ex).take (ex.length + 5)).all (belowO (ex.length + 5)) = true := by
  have := P_cut (toks := toks) (p := p) (ys := []) hx
  simpa using this
theorem P_take0 : (PSt toks p ex).take (ex.length + 5) = PSt toks p ex := by have := P_take (toks := toks) (p := p) (ex := ex) (ys := []); simpa using this
theorem exit_rt (hx : exOk ex) (d : D) (sl : Sl) : exitC (ex.length + 5) (some (.rt (.val d), sl, PSt toks p (ex ++ ys))) = some (.ok (.val d), PSt toks p ex) := by
  unfold exitC
  dsimp only
  rw [if_pos (P_cut hx), P_take]
theorem exit_rt0 (hx : exOk ex) (d : D) (sl : Sl) : exitC (ex.length + 5) (some (.rt (.val d), sl, PSt toks p ex)) = some (.ok (.val d), PSt toks p ex) := by
  unfold exitC
  dsimp only
  rw [if_pos (P_cut0 hx), P_take0]
theorem exit_nx (hx : exOk ex) (sl : Sl) : exitC (ex.length + 5) (some (.nx, sl, PSt toks p (ex ++ ys))) = some (.ok (.val .non), PSt toks p ex) := by
  unfold exitC
  dsimp only
  rw [if_pos (P_cut hx), P_take]
theorem exit_nx0 (hx : exOk ex) (sl : Sl) : exitC (ex.length + 5) (some (.nx, sl, PSt toks p ex)) = some (.ok (.val .non), PSt toks p ex) := by
  unfold exitC
  dsimp only
  rw [if_pos (P_cut0 hx), P_take0]
@[simp] theorem get_end (ex : List O) (x : O) : (ex ++ [x])[ex.length]? = some x := by simp
theorem exOk_nil : exOk [] := rfl
theorem exOk_app (hx : exOk ex) (l : List D) : exOk (ex ++ [.lst (l.map .val)]) := by
  unfold exOk at hx ⊢
  rw [List.all_append, Bool.and_eq_true]
  refine ⟨?_, by simp⟩
  rw [List.all_eq_true] at hx ⊢
  intro o ho
  have := hx o ho
  have mS : ∀ s, belowS (ex.length + 5) s = true → belowS ((ex ++ [O.lst (l.map .val)]).length + 5) s = true := fun s hs => by
    cases s with
    | val d => rfl
    | obj k => simp only [belowS, decide_eq_true_eq] at hs ⊢; simp; omega
  cases o with
  | lst m => simp only [belowO, List.all_eq_true] at this ⊢; exact fun s hs => mS s (this s hs)
  | ins n fs => simp only [belowO, List.all_eq_true] at this ⊢; exact fun s hs => mS _ (this s hs)
  | dct m => simp only [belowO, List.all_eq_true] at this ⊢; exact fun s hs => mS _ (this s hs)
  | dcn m => simp only [belowO, List.all_eq_true] at this ⊢; exact fun s hs => mS _ (this s hs)
  | tup m => simp only [belowO, List.all_eq_true] at this ⊢; exact fun s hs => mS s (this s hs)
  | frz d => rfl
theorem peek_eq (hx : exOk ex) (h : toks[p.i]? = some (tokD k t l c)) : F_Parser_peek [.obj 0] (PSt toks p ex) = some (.ok (.val (tokD k t l c)), PSt toks p ex) := by
  have h2 := Cl.atI_nat (show (toks.map S.val)[p.i]? = some (.val (tokD k t l c)) by rw [List.getElem?_map, h]; rfl)
  simp [-exitC, F_Parser_peek, b_Parser_peek, gIx, h2, exit_rt0 hx]
theorem take_eq (hx : exOk ex) (hk : PyData.strOk k = true) (h : toks[p.i]? = some (tokD k t l c)) : F_Parser_take [.obj 0, .val (.str k)] (PSt toks p ex) = some (.ok (.val (tokD k t l c)), PSt toks { p with i := p.i + 1 } ex) := by
  simp [-exitC, F_Parser_take, b_Parser_take, gNe_str _ hk hk, peek_eq hx h, exit_rt0 hx]
theorem take_word_eq (hx : exOk ex) (ht : PyData.strOk t = true) (h : toks[p.i]? = some (tokD k t l c)) : F_Parser_take_word [.obj 0, .val (.str t)] (PSt toks p ex) = some (.ok (.val .non), PSt toks { p with i := p.i + 1 } ex) := by
  simp [-exitC, F_Parser_take_word, b_Parser_take_word, gNe_str _ ht ht, peek_eq hx h, exit_nx0 hx]
end G
namespace G
open PySem L2 Cl
variable {toks : List D} {p : PS} {ex ys : List O} {k t : Str} {l c : Int} {nms : List Str}
theorem gEq_int (a b : Int) (st : List O) : gEq (.val (.int a)) (.val (.int b)) st = some (.ok (.val (.bl (decide (a = b)))), st) := by
  have e : PyData.eqv (.int a) (.int b) = decide (a = b) := by simp [PyData.eqv]; exact Bool.eq_iff_iff.mpr (by simp)
  have s : ∀ i : Int, SeqAt.shaped (.int i) = true := fun i => rfl
  simp [gEq, gEqB, toPS, toP, s, e]
structure NmOk (nms : List Str) : Prop where
  nd : nms.Nodup
  ok : ∀ x ∈ nms, PyData.strOk x = true
@[simp] theorem toPs_strs (l : List Str) : toPs (l.map D.str) = some (l.map PyData.str) := by
  induction l with
  | nil => simp [toPs]
  | cons a l ih => simp [toPs, toP, ih]
@[simp] theorem flat_strs (l : List Str) : (l.map PyData.str).all flatP = true := by
  induction l with
  | nil => rfl
  | cons a l ih => simp [flatP]
theorem any_strs (x : Str) (l : List Str) : ((l.map PyData.str).any fun z => PyData.eqv z (.str x)) = decide (x ∈ l) := by
  induction l with
  | nil => rfl
  | cons a l ih =>
    simp only [List.map_cons, List.any_cons, str_eqv, ih]
    by_cases h : a = x
    · subst h; simp
    · have h' : ¬ x = a := fun z => h z.symm
      simp [h, h']
theorem lay_strs (l : List Str) (h : ∀ x ∈ l, PyData.strOk x = true) : PyData.canLayAll0 (l.map PyData.str) = true := by
  induction l with
  | nil => rfl
  | cons a l ih => simp [PyData.canLayAll0, PyData.canLay0, h a, ih fun x hx => h x (List.mem_cons_of_mem _ hx)]
theorem depth_strs (l : List Str) : PyData.depthAll (l.map PyData.str) = 0 := by
  induction l with
  | nil => rfl
  | cons a l ih => simp [PyData.depthAll, PyData.depth, ih]
theorem shaped_strs (l : List Str) (h : ∀ x ∈ l, PyData.strOk x = true) : SeqAt.shaped (.list (l.map PyData.str)) = true := by
  simp [SeqAt.shaped, PyData.canLay0, lay_strs l h, PyData.depth, depth_strs]
theorem first_strs {x : Str} : ∀ {l : List Str} {n j : Nat}, l[j]? = some x → l.Nodup → firstP (.str x) (l.map PyData.str) n = some (n + j)
  | [], _, _, h, _ => by simp at h
  | a :: l, n, 0, h, _ => by simp at h; simp [firstP, str_eqv, h]
  | a :: l, n, j + 1, h, nd => by
    have h' : l[j]? = some x := by simpa using h
    have ne : ¬ a = x := fun z => by
      have := List.mem_of_getElem? h'
      rw [← z] at this
      exact (List.nodup_cons.mp nd).1 this
    simp only [List.map_cons, firstP, str_eqv, ne, decide_false, Bool.false_eq_true, if_false]
    rw [first_strs h' (List.nodup_cons.mp nd).2]
    congr 1; omega
theorem in_names (ok : NmOk nms) (hn : p.na = nms.map .str) (x : Str) : gInB false (.val (.str x)) (.obj 2) (PSt toks p ex) = some (.ok (.val (.bl (decide (x ∈ nms)))), PSt toks p ex) := by
  have e := any_strs x nms
  have f := flat_strs nms
  simp [gInB, toPS, toP, hn, flatP, e, f, -List.any_map, -List.all_map]
theorem valve_eq (hx : exOk ex) (ok : NmOk nms) (hn : p.na = nms.map .str) {x : Str} {j : Nat} (h : nms[j]? = some x) : F_Parser_valve [.obj 0, .val (tokD k x l c)] (PSt toks p ex) = some (.ok (.val (.int j)), PSt toks p ex) := by
  have hm := List.mem_of_getElem? h
  have e1 := in_names (toks := toks) (ex := ex) ok hn x
  have e2 := first_strs (n := 0) h ok.nd
  rw [Nat.zero_add] at e2
  simp [-exitC, F_Parser_valve, b_Parser_valve, e1, hm, gIndex, hn, toPS, toP, shaped_strs nms ok.ok, shaped_str (ok.ok x hm), e2, exit_rt0 hx]
/-- a number's text -/
structure Num (t : Str) (n : Nat) : Prop where
  i : intText? t = some (n : Int)
  l : t.length ≤ 640
  ok : PyData.strOk t = true
theorem gInt_num {n : Nat} (h : Num t n) (st : List O) : gInt (.val (.str t)) st = some (.ok (.val (.int n)), st) := by simp [gInt, h.i, h.l]
end G
namespace G
open PySem L2 Cl
variable {toks : List D} {p : PS} {ex ys : List O} {k t : Str} {l c : Int} {nms : List Str}
abbrev iD (n : Nat) : D := .int n
theorem int_eqv (a b : Int) : PyData.eqv (.int a) (.int b) = decide (a = b) := by simp [PyData.eqv]; exact Bool.eq_iff_iff.mpr (by simp)
abbrev iP (n : Nat) : PyData := .int n
@[simp] theorem toPs_ints (l : List Nat) : toPs (l.map iD) = some (l.map iP) := by
  induction l with
  | nil => simp [toPs]
  | cons a l ih => simp [toPs, toP, ih]
@[simp] theorem flat_ints (l : List Nat) : (l.map iP).all flatP = true := by
  induction l with
  | nil => rfl
  | cons a l ih => simp [flatP]
theorem any_ints (x : Nat) (l : List Nat) : ((l.map iP).any fun z => PyData.eqv z (.int x)) = decide (x ∈ l) := by
  induction l with
  | nil => rfl
  | cons a l ih =>
    simp only [List.map_cons, List.any_cons, int_eqv, ih]
    by_cases h : a = x
    · subst h; simp
    · have h' : ¬ x = a := fun z => h z.symm
      have h2 : ¬ (a : Int) = (x : Int) := by omega
      simp [h2, h']
/-- x in a list of numbers, of data | of the store -/
theorem in_ints (x : Nat) (js : List Nat) (st : List O) (neg : Bool) : gInB neg (.val (.int x)) (.val (.lst (js.map iD))) st = some (.ok (.val (.bl (if neg = true then !decide (x ∈ js) else decide (x ∈ js)))), st) := by
  have e := any_ints x js
  have f := flat_ints js
  simp [gInB, toPS, toP, flatP, e, f, -List.any_map, -List.all_map]
theorem in_intsO (x : Nat) (js : List Nat) (st : List O) (n : Nat) (h : st[n]? = some (.lst (js.map fun j => .val (iD j)))) : gInB false (.val (.int x)) (.obj n) st = some (.ok (.val (.bl (decide (x ∈ js)))), st) := by
  have e := any_ints x js
  have f := flat_ints js
  have d : datas (js.map fun j => S.val (iD j)) = some (js.map iD) := by
    have := datas_comp iD js
    exact this
  simp [gInB, toPS, toP, flatP, h, d, e, f, -List.any_map, -List.all_map]
end G
namespace G
open PySem L2 Cl
variable {toks : List D} {p : PS} {ex ys : List O} {k t : Str} {l c : Int} {nms : List Str} {len : Nat}
def tri (a b c : Nat) : D := .tup [.int a, .int b, .int c]
def pr (a b : Nat) : D := .tup [.int a, .int b]
end G
namespace G
open PySem L2 Cl
variable {toks : List D} {p : PS} {ex ys : List O} {k t : Str} {l c : Int} {nms : List Str} {len : Nat}
def planD (len most : Nat) (nms : List Str) (starts paused ranks : List D) : D := .ins "Plan" [("length", .int len), ("most", .int most), ("names", .tup (nms.map .str)), ("starts", .lst starts), ("paused", .lst paused), ("ranks", .lst ranks)]
theorem plan_init (a b c d e f : D) : F_Plan_init [a, b, c, d, e, f] = some (.ok (.ins "Plan" [("length", a), ("most", b), ("names", c), ("starts", d), ("paused", e), ("ranks", f)])) := by
  simp [F_Plan_init, b_Plan_init, deepD, deepF]
def pausedAt (ps : List (Nat × Nat)) (i : Nat) : Bool := ps.any fun q => (decide (q.1 ≤ i) && decide (i ≤ q.2))
theorem bools_map {α : Type} (f : α → Bool) (l : List α) : boolsD (l.map fun x => D.bl (f x)) = some (l.map f) := by
  induction l with
  | nil => rfl
  | cons a l ih => simp [boolsD, ih]
theorem any_eq (ps : List (Nat × Nat)) (hp : p.pa = ps.map fun q => pr q.1 q.2) (hl : ps.length ≤ 900) (i : Nat) (sl : Sl) (h0 : sl[0]? = some (some (.obj 0))) (h10 : sl[10]? = some (some (.val (.int i)))) (hlen : sl.length = 14) :
    e3_Parser_parse_plan sl (PSt toks p []) = some (.ok (.val (.bl (pausedAt ps i))), PSt toks p []) := by
  have w : ∀ j, j ≠ 8 → j ≠ 9 → (wipeS sl [8, 9])[j]? = sl[j]? := fun j h8 h9 => by rw [wipeS_get]; simp [h8, h9]
  have wl : (wipeS sl [8, 9]).length = 14 := by rw [wipeS_length, hlen]
  have e := lc_all (C := fun st => st[4]? = some (.lst (p.pa.map .val))) (g := tgTup 2 (tgCons (tgName 8) (tgCons (tgName 9) tgNil))) (e := e2_Parser_parse_plan) (sl := wipeS sl [8, 9]) (st := PSt toks p [])
    (fun d => match d with | .val (.tup [x, y]) => ((wipeS sl [8, 9]).set 8 (some (.val x))).set 9 (some (.val y)) | _ => [])
    (fun d => match d with | .val (.tup [.int x, .int y]) => .bl (decide (x ≤ i) && decide ((i : Int) ≤ y)) | _ => .non) rfl (p.pa.map .val) ?_ ?_ (by simp [hp]; exact Nat.le_of_lt (sz (by omega)))
  · have e2 : (ps.map fun q => D.bl ((decide (q.1 ≤ i) && decide (i ≤ q.2)))) = ((p.pa.map S.val).map fun d => match d with | .val (.tup [.int x, .int y]) => D.bl (decide (x ≤ i) && decide ((i : Int) ≤ y)) | _ => .non) := by
      rw [hp, List.map_map, List.map_map]
      apply List.map_congr_left
      intro q _
      simp only [Function.comp, pr]
      congr 1
      rw [Bool.eq_iff_iff]; simp
    have e3 := bools_map (fun q : Nat × Nat => (decide (q.1 ≤ i) && decide (i ≤ q.2))) ps
    rw [← e2] at e
    simp [-tgTup, -wipeS, e3_Parser_parse_plan, h0, gIter, e, gAnyAll, e3, pausedAt]
  · intro d hd
    obtain ⟨d', hd', rfl⟩ := List.mem_map.mp hd
    rw [hp] at hd'
    obtain ⟨q, _, rfl⟩ := List.mem_map.mp hd'
    simp [pr, -wipeS]
  · intro d hd
    obtain ⟨d', hd', rfl⟩ := List.mem_map.mp hd
    rw [hp] at hd'
    obtain ⟨q, _, rfl⟩ := List.mem_map.mp hd'
    have w10 := (w 10 (by decide) (by decide)).trans h10
    show e2_Parser_parse_plan (((wipeS sl [8, 9]).set 8 (some (.val (.int q.1)))).set 9 (some (.val (.int q.2)))) _ = some (.ok (.val (.bl (decide ((q.1 : Int) ≤ i) && decide ((i : Int) ≤ q.2)))), _)
    generalize wipeS sl [8, 9] = s0 at wl w10
    have g8 : ((s0.set 8 (some (.val (.int q.1)))).set 9 (some (.val (.int q.2))))[8]? = some (some (.val (.int q.1))) := by rw [List.getElem?_set_ne (by decide), List.getElem?_set_self (by rw [wl]; decide)]
    have g9 : ((s0.set 8 (some (.val (.int q.1)))).set 9 (some (.val (.int q.2))))[9]? = some (some (.val (.int q.2))) := by rw [List.getElem?_set_self (by rw [List.length_set, wl]; decide)]
    have g10 : ((s0.set 8 (some (.val (.int q.1)))).set 9 (some (.val (.int q.2))))[10]? = some (some (.val (.int i))) := by rw [List.getElem?_set_ne (by decide), List.getElem?_set_ne (by decide), w10]
    generalize (s0.set 8 (some (.val (.int q.1)))).set 9 (some (.val (.int q.2))) = s1 at g8 g9 g10
    by_cases hq : (q.1 : Int) ≤ i
    · simp [e2_Parser_parse_plan, g8, g9, g10, hq]
    · simp [e2_Parser_parse_plan, g8, g9, g10, hq]
theorem range_val (n : Nat) (h : n < 2 ^ 62) (st : List O) : gRange1 [.val (.int n)] st = some (.ok ((List.range n).map fun i : Nat => S.val (iD i), always), st) := by
  have h1 : -(2 ^ 62 : Int) ≤ (n : Int) := by omega
  have h2 : (n : Int) < 2 ^ 62 := by omega
  unfold gRange1
  dsimp only
  rw [if_pos ⟨h1, h2⟩]
  simp
theorem paused_eq (ps : List (Nat × Nat)) (hp : p.pa = ps.map fun q => pr q.1 q.2) (hl : ps.length ≤ 900) (hn : len ≤ 1000) (sl : Sl) (h0 : sl[0]? = some (some (.obj 0))) (h1 : sl[1]? = some (some (.val (.int len)))) (hlen : sl.length = 14) :
    eLc [10] (iArgs gRange1 (aCons (eVar 1) aNil)) (tgName 10) tTrue e3_Parser_parse_plan sl (PSt toks p []) = some (.ok (.val (.lst ((List.range len).map fun i => .bl (pausedAt ps i)))), PSt toks p []) := by
  have wl : (wipeS sl [10]).length = 14 := by rw [wipeS_length, hlen]
  have w0 : (wipeS sl [10])[0]? = some (some (.obj 0)) := by rw [wipeS_get]; simp [h0]
  have e := lc_all (C := always) (g := tgName 10) (e := e3_Parser_parse_plan) (sl := wipeS sl [10]) (st := PSt toks p []) (fun d => (wipeS sl [10]).set 10 (some d))
    (fun d => match d with | .val (.int i) => .bl (pausedAt ps i.toNat) | _ => .non) trivial ((List.range len).map fun i : Nat => S.val (iD i)) (fun d _ => rfl) ?_ (by simp; exact Nat.le_of_lt (sz hn))
  · rw [List.map_map] at e
    simp [-tgName, -wipeS, h1, range_val len (by omega), e, Function.comp_def]
  · intro d hd
    obtain ⟨i, _, rfl⟩ := List.mem_map.mp hd
    rw [any_eq ps hp hl i _ (by rw [List.getElem?_set_ne (by decide)]; exact w0) (by rw [List.getElem?_set_self (by rw [wl]; decide)]) (by rw [List.length_set, wl])]
    simp
theorem rest_eq (js : List Nat) (hn : nms.length ≤ 8) (hna : p.na = nms.map .str) (sl : Sl) (h0 : sl[0]? = some (some (.obj 0))) (h11 : sl[11]? = some (some (.val (.lst (js.map iD))))) (hlen : sl.length = 14) :
    eLc [12] (iArgs gRange1 (aCons (eArgs (g1 gLen) (aCons (eFld ["Parser"] "names" (eVar 0)) aNil)) aNil)) (tgName 12) t1_Parser_parse_plan e1_Parser_parse_plan sl (PSt toks p []) =
      some (.ok (.val (.lst (((List.range nms.length).filter fun i => !decide (i ∈ js)).map iD))), PSt toks p []) := by
  have wl : (wipeS sl [12]).length = 14 := by rw [wipeS_length, hlen]
  have w11 : (wipeS sl [12])[11]? = some (some (.val (.lst (js.map iD)))) := by rw [wipeS_get]; simp [h11]
  have e := lc_map (C := always) (g := tgName 12) (t := t1_Parser_parse_plan) (e := e1_Parser_parse_plan) (sl := wipeS sl [12]) (st := PSt toks p []) (fun d => (wipeS sl [12]).set 12 (some d))
    (fun d => match d with | .val (.int i) => !decide (i.toNat ∈ js) | _ => false) (fun d => match d with | .val x => x | _ => .non) trivial ((List.range nms.length).map fun i : Nat => S.val (iD i)) [] (fun d _ => rfl) ?_ ?_ (by simp; exact Nat.le_of_lt (sz (by omega)))
  · rw [List.nil_append, List.filter_map, List.map_map] at e
    simp [-tgName, -wipeS, h0, gLen, hna, range_val nms.length (by omega), e, Function.comp_def]
  · intro d hd
    obtain ⟨i, _, rfl⟩ := List.mem_map.mp hd
    have g11 : ((wipeS sl [12]).set 12 (some (.val (.int i))))[11]? = some (some (.val (.lst (js.map iD)))) := by rw [List.getElem?_set_ne (by decide)]; exact w11
    have g12 : ((wipeS sl [12]).set 12 (some (.val (.int i))))[12]? = some (some (.val (.int i))) := by rw [List.getElem?_set_self (by rw [wl]; decide)]
    generalize (wipeS sl [12]).set 12 (some (.val (.int (i : Int)))) = s1 at g11 g12
    have := in_ints i js (PSt toks p []) true
    simp [t1_Parser_parse_plan, g11, g12, this]
  · intro d hd _
    obtain ⟨i, _, rfl⟩ := List.mem_map.mp hd
    have g12 : ((wipeS sl [12]).set 12 (some (.val (.int i))))[12]? = some (some (.val (.int i))) := by rw [List.getElem?_set_self (by rw [wl]; decide)]
    generalize (wipeS sl [12]).set 12 (some (.val (.int (i : Int)))) = s1 at g12
    simp [e1_Parser_parse_plan, g12]
end G
namespace G
open PySem L2 Cl
variable {toks : List D} {p : PS} {ex ys : List O} {k t : Str} {l c : Int} {nms : List Str} {len : Nat}
def rankOf (n : Nat) (rs : List (List Nat)) : List Nat := match rs with
  | [] => List.range n
  | js :: _ => js ++ (List.range n).filter fun i => !decide (i ∈ js)
theorem seq_nx {a b : MS} {sl sl' : Sl} {st st' : List O} (h : a sl st = some (.nx, sl', st')) : sSeq a b sl st = b sl' st' := by simp [h]
theorem set_nx {e : ME} {sl : Sl} {st st' : List O} {d : S} {i : Nat} (h : e sl st = some (.ok d, st')) : sSet i e sl st = some (.nx, sl.set i (some d), st') := by simp [h]
theorem bin_ok {g : S → S → M S} {a b : ME} {sl : Sl} {st st1 st2 : List O} {x y : S} (h1 : a sl st = some (.ok x, st1)) (h2 : b sl st1 = some (.ok y, st2)) : eBin g a b sl st = g x y st2 := by simp [h1, h2]
theorem gAdd_lst (a b : List D) (st : List O) (h : a.length + b.length ≤ sizeLine) : gAdd (.val (.lst a)) (.val (.lst b)) st = some (.ok (.val (.lst (a ++ b))), st) := by
  have e : datas (a.map S.val ++ b.map S.val) = some (a ++ b) := by rw [← List.map_append]; exact datas_map _
  simp [gAdd, gCat, e, h]
end G
namespace G
open PySem L2 Cl
def Sc (l : List Nat) : Str := ⟨l.toArray⟩
@[simp] theorem Sc_one (a : Nat) : (⟨#[a]⟩ : Str) = Sc [a] := rfl
@[simp] theorem Sc_cps (a : List Nat) : (Sc a).cps.toList = a := rfl
@[simp] theorem gAdd_int (a b : Int) (st : List O) : gAdd (.val (.int a)) (.val (.int b)) st = some (.ok (.val (.int (a + b))), st) := rfl
theorem Sc_of (s : String) : Str.ofString s = Sc (s.toList.map Char.toNat) := by
  have := PyProof.Rows.signs_ofString s
  exact TL.ext_tl (by rw [Sc, TL.tl_mk]; exact this)
@[simp] theorem Sc_eq (a b : List Nat) : (Sc a = Sc b) = (a = b) := propext ⟨fun h => congrArg (fun x : Str => x.cps.toList) h, fun h => by rw [h]⟩
@[simp] theorem Sc_len (a : List Nat) : (Sc a).length = a.length := by simp [Sc, Str.length]
abbrev iV (i : Int) : S := .val (.int i)
theorem sizes {n : Nat} (h : n ≤ 16000000) : n < sizeLine := by rw [sizeLine_eq]; omega
@[simp] theorem sz_1 : 1 ≤ sizeLine := by rw [sizeLine_eq]; omega
@[simp] theorem sz_2 : 2 ≤ sizeLine := by rw [sizeLine_eq]; omega
@[simp] theorem sz_3 : 3 ≤ sizeLine := by rw [sizeLine_eq]; omega
@[simp] theorem sz_4 : 4 ≤ sizeLine := by rw [sizeLine_eq]; omega
@[simp] theorem sz_5 : 5 ≤ sizeLine := by rw [sizeLine_eq]; omega
@[simp] theorem sz_6 : 6 ≤ sizeLine := by rw [sizeLine_eq]; omega
@[simp] theorem sz_7 : 7 ≤ sizeLine := by rw [sizeLine_eq]; omega
@[simp] theorem sz_8 : 8 ≤ sizeLine := by rw [sizeLine_eq]; omega
@[simp] theorem sz_9 : 9 ≤ sizeLine := by rw [sizeLine_eq]; omega
@[simp] theorem sz_10 : 10 ≤ sizeLine := by rw [sizeLine_eq]; omega
@[simp] theorem sz_11 : 11 ≤ sizeLine := by rw [sizeLine_eq]; omega
@[simp] theorem sz_12 : 12 ≤ sizeLine := by rw [sizeLine_eq]; omega
@[simp] theorem sz_13 : 13 ≤ sizeLine := by rw [sizeLine_eq]; omega
@[simp] theorem sz_14 : 14 ≤ sizeLine := by rw [sizeLine_eq]; omega
@[simp] theorem sz_15 : 15 ≤ sizeLine := by rw [sizeLine_eq]; omega
@[simp] theorem sz_16 : 16 ≤ sizeLine := by rw [sizeLine_eq]; omega
@[simp] theorem sz_17 : 17 ≤ sizeLine := by rw [sizeLine_eq]; omega
@[simp] theorem sz_18 : 18 ≤ sizeLine := by rw [sizeLine_eq]; omega
@[simp] theorem sz_19 : 19 ≤ sizeLine := by rw [sizeLine_eq]; omega
@[simp] theorem sz_20 : 20 ≤ sizeLine := by rw [sizeLine_eq]; omega
@[simp] theorem datas_lam {α : Type} (f : α → D) (l : List α) : datas (l.map fun a => S.val (f a)) = some (l.map f) := datas_comp f l
@[simp] theorem datas_app (l m : List S) : datas (l ++ m) = (datas l).bind fun a => (datas m).map (a ++ ·) := by
  induction l with
  | nil => simp
  | cons a l ih =>
    cases a with
    | obj k => rfl
    | val d =>
      simp only [List.cons_append, datas, ih]
      cases datas l with
      | none => rfl
      | some x => cases datas m <;> rfl
@[simp] theorem sl_0 : 0 < sizeLine := by rw [sizeLine_eq]; omega
@[simp] theorem sl_1 : 1 < sizeLine := by rw [sizeLine_eq]; omega
@[simp] theorem sl_2 : 2 < sizeLine := by rw [sizeLine_eq]; omega
@[simp] theorem sl_3 : 3 < sizeLine := by rw [sizeLine_eq]; omega
@[simp] theorem sl_4 : 4 < sizeLine := by rw [sizeLine_eq]; omega
@[simp] theorem sl_5 : 5 < sizeLine := by rw [sizeLine_eq]; omega
@[simp] theorem sl_6 : 6 < sizeLine := by rw [sizeLine_eq]; omega
@[simp] theorem sl_7 : 7 < sizeLine := by rw [sizeLine_eq]; omega
@[simp] theorem sl_8 : 8 < sizeLine := by rw [sizeLine_eq]; omega
@[simp] theorem sl_9 : 9 < sizeLine := by rw [sizeLine_eq]; omega
@[simp] theorem sl_10 : 10 < sizeLine := by rw [sizeLine_eq]; omega
@[simp] theorem sl_11 : 11 < sizeLine := by rw [sizeLine_eq]; omega
@[simp] theorem sl_12 : 12 < sizeLine := by rw [sizeLine_eq]; omega
@[simp] theorem sl_13 : 13 < sizeLine := by rw [sizeLine_eq]; omega
@[simp] theorem sl_14 : 14 < sizeLine := by rw [sizeLine_eq]; omega
@[simp] theorem sl_15 : 15 < sizeLine := by rw [sizeLine_eq]; omega
@[simp] theorem sl_16 : 16 < sizeLine := by rw [sizeLine_eq]; omega
@[simp] theorem sl_17 : 17 < sizeLine := by rw [sizeLine_eq]; omega
@[simp] theorem sl_18 : 18 < sizeLine := by rw [sizeLine_eq]; omega
@[simp] theorem sl_19 : 19 < sizeLine := by rw [sizeLine_eq]; omega
@[simp] theorem sl_20 : 20 < sizeLine := by rw [sizeLine_eq]; omega
theorem token_init (a b c d : D) : F_Token_init [a, b, c, d] = some (.ok (.ins "Token" [("kind", a), ("text", b), ("line", c), ("column", d)])) := by
  simp [F_Token_init, b_Token_init, deepD, deepF]
theorem in_str (a : Nat) (z : List Nat) (st : List O) : gInB false (.val (.str (Sc [a]))) (.val (.str (Sc z))) st = some (.ok (.val (.bl (decide (a ∈ z)))), st) := by
  simp [gInB]
  congr
theorem run_loop {row ls : List Nat} (hR : row.length ≤ sizeLine) (x : Option S) (st : List O) : ∀ (m : List Nat) (e : Nat), row.drop e = m →
    sWhile c1_run_end l1_run_end [some (.val (.str (Sc row))), x, some (.val (.str (Sc ls))), some (.val (.int e))] st =
      some (.nx, [some (.val (.str (Sc row))), x, some (.val (.str (Sc ls))), some (.val (.int ((e + (m.takeWhile fun c => decide (c ∈ ls)).length : Nat) : Int)))], st)
  | [], e, h => by
    have he : row.length ≤ e := List.drop_eq_nil_iff.mp h
    have he2 : ¬ ((e : Int) < (row.length : Int)) := by omega
    rw [while_stop (st1 := st)]
    · simp
    · simp [c1_run_end, gLen, hR, he2]
  | c :: m, e, h => by
    have he : e < row.length := by
      rcases Nat.lt_or_ge e row.length with h1 | h1
      · exact h1
      · rw [List.drop_eq_nil_iff.mpr h1] at h; cases h
    have he2 : (e : Int) < (row.length : Int) := by omega
    have hc : row[e]? = some c := by
      have := congrArg (fun z => z[0]?) h
      simpa using this
    have hm : row.drop (e + 1) = m := by
      have : row.drop (e + 1) = (row.drop e).drop 1 := by rw [List.drop_drop]
      rw [this, h]; rfl
    have ha := Cl.atI_nat hc
    by_cases hl : c ∈ ls
    · rw [while_go (st1 := st) (sl2 := [some (.val (.str (Sc row))), x, some (.val (.str (Sc ls))), some (.val (.int ((e + 1 : Nat) : Int)))]) (st2 := st)]
      · rw [run_loop hR x st m (e + 1) hm]
        simp [hl, Nat.add_assoc, Nat.add_comm 1]
      · simp [c1_run_end, gLen, hR, he2, gIx, ha, in_str, hl]
      · simp [l1_run_end]
    · rw [while_stop (st1 := st)]
      · simp [hl]
      · simp [c1_run_end, gLen, hR, he2, gIx, ha, in_str, hl]
theorem run_end_eq {row ls : List Nat} (hR : row.length ≤ sizeLine) (e : Nat) : F_run_end [.str (Sc row), .int e, .str (Sc ls)] = some (.ok (.int ((e + ((row.drop e).takeWhile fun c => decide (c ∈ ls)).length : Nat) : Int))) := by
  have h := run_loop (ls := ls) hR (some (.val (.int e))) [] _ e rfl
  simp [F_run_end, b_run_end, h, deepD]
end G
namespace G
open PySem L2 Cl
def isDig (c : Nat) : Bool := decide (48 ≤ c) && decide (c ≤ 57)
def isLet (c : Nat) : Bool := decide (97 ≤ c) && decide (c ≤ 122)
def digL : List Nat := [48, 49, 50, 51, 52, 53, 54, 55, 56, 57]
def letL : List Nat := [97, 98, 99, 100, 101, 102, 103, 104, 105, 106, 107, 108, 109, 110, 111, 112, 113, 114, 115, 116, 117, 118, 119, 120, 121, 122]
theorem in_dig (c : Nat) : decide (c ∈ digL) = isDig c := by
  rw [Bool.eq_iff_iff]
  simp only [decide_eq_true_eq, isDig, Bool.and_eq_true, digL, List.mem_cons, List.not_mem_nil, or_false]
  omega
theorem in_let (c : Nat) : decide (c ∈ letL) = isLet c := by
  rw [Bool.eq_iff_iff]
  simp only [decide_eq_true_eq, isLet, Bool.and_eq_true, letL, List.mem_cons, List.not_mem_nil, or_false]
  omega
theorem mem_dig (c : Nat) : (c ∈ digL) = (isDig c = true) := by rw [← in_dig]; simp
theorem lit_dig : Str.ofString "0123456789" = Sc digL := by rw [Sc_of]; rfl
theorem lit_let : Str.ofString "abcdefghijklmnopqrstuvwxyz" = Sc letL := by rw [Sc_of]; rfl
theorem lit_semi : Str.ofString ";" = Sc [59] := by rw [Sc_of]; rfl
theorem lit_zero : Str.ofString "0" = Sc [48] := by rw [Sc_of]; rfl
theorem lit_sp : Str.ofString " \n" = Sc [32, 10] := by rw [Sc_of]; rfl
theorem lit_nl : Str.ofString "\n" = Sc [10] := by rw [Sc_of]; rfl
def keyW : List Str := ["round", "open", "valves", "start", "for", "pause", "rank"]
structure Tk where
  k : Str
  t : List Nat
  l : Nat
  c : Nat
abbrev Tk.d (x : Tk) : D := tokD x.k (Sc x.t) x.l x.c
/-- the token at the head of a row's rest, or a fault there -/
def readT (m : List Nat) (l c : Nat) : Option Tk := match m with
  | [] => none
  | a :: r =>
    if a = 59 then some ⟨"sign", [59], l, c⟩
    else if isDig a = true then (
      if 2 < ((a :: r).takeWhile isDig).length ∨ (1 < ((a :: r).takeWhile isDig).length ∧ a = 48) then none else some ⟨"number", (a :: r).takeWhile isDig, l, c⟩)
    else (
      if Sc ((a :: r).takeWhile isLet) ∈ keyW then some ⟨"keyword", (a :: r).takeWhile isLet, l, c⟩
      else if 1 ≤ ((a :: r).takeWhile isLet).length ∧ ((a :: r).takeWhile isLet).length ≤ 8 then some ⟨"name", (a :: r).takeWhile isLet, l, c⟩ else none)
abbrev synX (l c : Nat) : XD := ⟨"SyntaxFault", [("column", .int c), ("line", .int l)]⟩
def okC (a : List Nat) : Prop := ∀ c ∈ a, c < 1114112
theorem ok_Sc {a : List Nat} (h : okC a) : PyData.strOk (Sc a) = true := by
  unfold PyData.strOk
  rw [← Array.all_toList, List.all_eq_true]
  intro c hc
  exact decide_eq_true (h c hc)
theorem cut_S {row : List Nat} {c n : Nat} (h : c + n ≤ row.length) : cutS (Sc row) (some (c : Int)) (some ((c + n : Nat) : Int)) = Sc ((row.drop c).take n) := by
  unfold cutS
  rw [HT.sIx_nat, HT.sIx_nat, Sc_len, Nat.min_eq_left h, Nat.min_eq_left (by omega), Nat.add_sub_cancel_left]
  rfl
theorem take_tw (p : Nat → Bool) (l : List Nat) : l.take (l.takeWhile p).length = l.takeWhile p :=
  (List.prefix_iff_eq_take.mp (List.takeWhile_prefix p)).symm
theorem tw_len (p : Nat → Bool) (l : List Nat) : (l.takeWhile p).length ≤ l.length := (List.takeWhile_prefix p).length_le
theorem cut_tw {row : List Nat} {c : Nat} {m : List Nat} (p : Nat → Bool) (h : row.drop c = m) (hc : c ≤ row.length) : cutS (Sc row) (some (c : Int)) (some ((c + (m.takeWhile p).length : Nat) : Int)) = Sc (m.takeWhile p) := by
  rw [cut_S, h, take_tw]
  have := tw_len p m
  have h2 := congrArg List.length h
  rw [List.length_drop] at h2
  omega
theorem in_key (w : Str) (st : List O) : gInB false (.val (.str w)) (.val (.tup (keyW.map D.str))) st = some (.ok (.val (.bl (decide (w ∈ keyW)))), st) := by
  have e := any_strs w keyW
  have f := flat_strs keyW
  simp [gInB, toPS, toP, flatP, e, f, -List.any_map, -List.all_map]
theorem read_eq {row : List Nat} (hR : row.length ≤ 16000000) (hok : okC row) (l c : Nat) {a : Nat} {r : List Nat} (h : row.drop c = a :: r) :
    F_read_token [.str (Sc row), .int l, .int c] = match readT (a :: r) l c with
      | some t => some (.ok t.d)
      | none => some (.error (synX l c)) := by
  have hz := Nat.le_of_lt (sizes hR)
  have hc : row[c]? = some a := by
    have := congrArg (fun z => z[0]?) h
    simpa using this
  have hcl : c ≤ row.length := Nat.le_of_lt (List.getElem?_eq_some_iff.mp hc).1
  have ha := Cl.atI_nat hc
  have e1 := run_end_eq (ls := digL) hz c
  have e2 := run_end_eq (ls := letL) hz c
  simp only [in_dig, in_let, h] at e1 e2
  have c1 := cut_tw isDig h hcl
  have c2 := cut_tw isLet h hcl
  have okA : okC [a] := fun x hx => by
    rw [List.mem_singleton.mp hx]; exact hok a (List.mem_of_getElem? hc)
  have q1 := gEq_str (a := Sc [a]) (b := Sc [59]) [] (ok_Sc okA) (by rw [← lit_semi]; exact strOk_lit _)
  have q2 := gEq_str (a := Sc [a]) (b := Sc [48]) [] (ok_Sc okA) (by rw [← lit_zero]; exact strOk_lit _)
  simp only [Sc_eq, List.cons.injEq, and_true] at q1 q2
  have l1 : ∀ p : Nat → Bool, ((a :: r).takeWhile p).length ≤ sizeLine := fun p => by
    have := tw_len p (a :: r)
    have h2 := congrArg List.length h
    rw [List.length_drop] at h2
    exact Nat.le_trans this (by omega)
  have k1 : ∀ w : Str, gInB false (.val (.str w)) (.val (.tup ((["round", "open", "valves", "start", "for", "pause", "rank"] : List Str).map D.str))) [] = some (.ok (.val (.bl (decide (w ∈ keyW)))), []) := fun w => in_key w []
  simp only [List.map_cons, List.map_nil] at k1
  have ld := l1 isDig
  have ll := l1 isLet
  simp only [show (fun c => isDig c) = isDig from rfl, show (fun c => isLet c) = isLet from rfl, Int.natCast_add] at e1 e2 c1 c2
  unfold F_read_token asP b_read_token readT
  dsimp only
  generalize (a :: r).takeWhile isDig = wd at e1 c1 ld ⊢
  generalize (a :: r).takeWhile isLet = wl at e2 c2 ll ⊢
  rw [lit_semi, lit_dig, lit_let, lit_zero]
  by_cases h59 : a = 59
  · subst h59
    simp [gIx, hz, ha, q1, token_init, deepD, deepF]
  · by_cases hd : isDig a = true
    · by_cases hb : 2 < wd.length
      · have hb2 : (2 : Int) < wd.length := by omega
        simp [gIx, hz, ha, q1, h59, in_str, mem_dig, hd, e1, gSl, c1, gLen, ld, ll, hb, hb2, backF]
      · have hb2 : ¬ (2 : Int) < wd.length := by omega
        by_cases hb3 : 1 < wd.length
        · have hb4 : (1 : Int) < wd.length := by omega
          by_cases h48 : a = 48
          · subst h48
            simp [gIx, hz, ha, q1, q2, h59, in_str, mem_dig, hd, e1, gSl, c1, gLen, ld, ll, hb, hb2, hb3, hb4, backF]
          · simp [gIx, hz, ha, q1, q2, h59, in_str, mem_dig, hd, e1, gSl, c1, gLen, ld, ll, hb, hb2, hb3, hb4, h48, backF, token_init, deepD, deepF]
        · have hb4 : ¬ (1 : Int) < wd.length := by omega
          simp [gIx, hz, ha, q1, q2, h59, in_str, mem_dig, hd, e1, gSl, c1, gLen, ld, ll, hb, hb2, hb3, hb4, backF, token_init, deepD, deepF]
    · have hd2 : isDig a = false := by simpa using hd
      by_cases hk : Sc wl ∈ keyW
      · simp [gIx, hz, ha, q1, h59, in_str, mem_dig, hd2, e2, gSl, c2, k1, hk, token_init, deepD, deepF]
      · by_cases h1 : 1 ≤ wl.length
        · have h1' : (1 : Int) ≤ wl.length := by omega
          by_cases h8 : wl.length ≤ 8
          · have h8' : (wl.length : Int) ≤ 8 := by omega
            simp [gIx, hz, ha, q1, h59, in_str, mem_dig, hd2, e2, gSl, c2, k1, hk, gLen, ld, ll, h1, h1', h8, h8', token_init, deepD, deepF]
          · have h8' : ¬ (wl.length : Int) ≤ 8 := by omega
            simp [gIx, hz, ha, q1, h59, in_str, mem_dig, hd2, e2, gSl, c2, k1, hk, gLen, ld, ll, h1, h1', h8, h8', backF]
        · have h1' : ¬ (1 : Int) ≤ wl.length := by omega
          simp [gIx, hz, ha, q1, h59, in_str, mem_dig, hd2, e2, gSl, c2, k1, hk, gLen, ld, ll, h1, h1', backF]
end G
namespace G
open PySem L2 Cl
mutual
/-- of depth at most n; bools only where b -/
def okP (b : Bool) : Nat → D → Bool
  | _, .non => true
  | _, .bl _ => b
  | _, .int _ => true
  | _, .str s => PyData.strOk s
  | n + 1, .tup l => okPs b n l
  | n + 1, .lst l => okPs b n l
  | _, _ => false
def okPs (b : Bool) : Nat → List D → Bool
  | _, [] => true
  | n, d :: r => okP b n d && okPs b n r
end
theorem okPs_iff {b : Bool} {n : Nat} : ∀ {l : List D}, okPs b n l = true ↔ ∀ d ∈ l, okP b n d = true
  | [] => by simp [okPs]
  | d :: r => by
    rw [okPs, Bool.and_eq_true, okPs_iff]
    simp
mutual
theorem okP_toP {b : Bool} : ∀ {n : Nat} {d : D}, okP b n d = true → ∃ p, toP d = some p ∧ p.canLay0 = true ∧ p.depth ≤ n
  | n, .non, _ => ⟨_, by rw [toP], rfl, Nat.zero_le _⟩
  | n, .bl k, _ => ⟨_, by rw [toP], rfl, Nat.zero_le _⟩
  | n, .int i, _ => ⟨_, by rw [toP], rfl, Nat.zero_le _⟩
  | n, .str s, h => ⟨_, by rw [toP], by rw [okP] at h; exact h, Nat.zero_le _⟩
  | n + 1, .tup l, h => by
    rw [okP] at h
    obtain ⟨ps, h1, h2, h3⟩ := okPs_toP h
    refine ⟨.tuple ps, by rw [toP, h1]; rfl, by rw [PyData.canLay0]; exact h2, ?_⟩
    rw [PyData.depth]; omega
  | n + 1, .lst l, h => by
    rw [okP] at h
    obtain ⟨ps, h1, h2, h3⟩ := okPs_toP h
    refine ⟨.list ps, by rw [toP, h1]; rfl, by rw [PyData.canLay0]; exact h2, ?_⟩
    rw [PyData.depth]; omega
  | 0, .tup l, h => by simp [okP] at h
  | 0, .lst l, h => by simp [okP] at h
  | n, .scr l, h => by simp [okP] at h
  | n, .ins c l, h => by simp [okP] at h
  | n, .dct l, h => by simp [okP] at h
  | n, .vv l, h => by simp [okP] at h
theorem okPs_toP {b : Bool} : ∀ {n : Nat} {l : List D}, okPs b n l = true → ∃ ps, toPs l = some ps ∧ PyData.canLayAll0 ps = true ∧ PyData.depthAll ps ≤ n
  | n, [], _ => ⟨[], by rw [toPs], rfl, Nat.zero_le _⟩
  | n, d :: r, h => by
    rw [okPs, Bool.and_eq_true] at h
    obtain ⟨p, h1, h2, h3⟩ := okP_toP h.1
    obtain ⟨ps, h4, h5, h6⟩ := okPs_toP h.2
    refine ⟨p :: ps, by rw [toPs, h1, h4], by rw [PyData.canLayAll0, h2, h5]; rfl, ?_⟩
    rw [PyData.depthAll]
    omega
end
mutual
theorem toP_inj : ∀ {n : Nat} {a b : D} {p q : PyData}, okP false n a = true → okP false n b = true → toP a = some p → toP b = some q → PyData.eqv p q = true → a = b
  | n, a, b, p, q, ha, hb, h1, h2, h => by
    cases a with
    | non => rw [toP] at h1; cases h1; cases b <;> first | rfl | (rw [toP] at h2; cases h2; simp_all [PyData.eqv, okP]; done) | (simp [okP] at hb; done) | (rw [toP] at h2; obtain ⟨z, _, rfl⟩ := Option.map_eq_some_iff.mp h2; simp [PyData.eqv] at h)
    | bl k => simp [okP] at ha
    | int i => rw [toP] at h1; cases h1; cases b <;> first | (rw [toP] at h2; cases h2; simp_all [PyData.eqv, okP]; done) | (simp [okP] at hb; done) | (rw [toP] at h2; obtain ⟨z, _, rfl⟩ := Option.map_eq_some_iff.mp h2; simp [PyData.eqv] at h)
    | str s => rw [toP] at h1; cases h1; cases b <;> first | (rw [toP] at h2; cases h2; simp_all [PyData.eqv, okP]; done) | (simp [okP] at hb; done) | (rw [toP] at h2; obtain ⟨z, _, rfl⟩ := Option.map_eq_some_iff.mp h2; simp [PyData.eqv] at h)
    | tup l =>
      rw [toP] at h1
      obtain ⟨ps, h3, rfl⟩ := Option.map_eq_some_iff.mp h1
      cases b with
      | tup m =>
        rw [toP] at h2
        obtain ⟨qs, h4, rfl⟩ := Option.map_eq_some_iff.mp h2
        cases n with
        | zero => simp [okP] at ha
        | succ n =>
          rw [okP] at ha hb
          rw [PyData.eqv] at h
          rw [toPs_inj ha hb h3 h4 h]
      | lst m => rw [toP] at h2; obtain ⟨z, _, rfl⟩ := Option.map_eq_some_iff.mp h2; simp [PyData.eqv] at h
      | bl k => simp [okP] at hb
      | non => rw [toP] at h2; cases h2; simp [PyData.eqv] at h
      | int k => rw [toP] at h2; cases h2; simp [PyData.eqv] at h
      | str k => rw [toP] at h2; cases h2; simp [PyData.eqv] at h
      | scr k => simp [okP] at hb
      | ins k => simp [okP] at hb
      | dct k => simp [okP] at hb
      | vv k => simp [okP] at hb
    | lst l =>
      rw [toP] at h1
      obtain ⟨ps, h3, rfl⟩ := Option.map_eq_some_iff.mp h1
      cases b with
      | lst m =>
        rw [toP] at h2
        obtain ⟨qs, h4, rfl⟩ := Option.map_eq_some_iff.mp h2
        cases n with
        | zero => simp [okP] at ha
        | succ n =>
          rw [okP] at ha hb
          rw [PyData.eqv] at h
          rw [toPs_inj ha hb h3 h4 h]
      | tup m => rw [toP] at h2; obtain ⟨z, _, rfl⟩ := Option.map_eq_some_iff.mp h2; simp [PyData.eqv] at h
      | bl k => simp [okP] at hb
      | non => rw [toP] at h2; cases h2; simp [PyData.eqv] at h
      | int k => rw [toP] at h2; cases h2; simp [PyData.eqv] at h
      | str k => rw [toP] at h2; cases h2; simp [PyData.eqv] at h
      | scr k => simp [okP] at hb
      | ins k => simp [okP] at hb
      | dct k => simp [okP] at hb
      | vv k => simp [okP] at hb
    | scr l => simp [okP] at ha
    | ins k l => simp [okP] at ha
    | dct l => simp [okP] at ha
    | vv l => simp [okP] at ha
theorem toPs_inj : ∀ {n : Nat} {a b : List D} {p q : List PyData}, okPs false n a = true → okPs false n b = true → toPs a = some p → toPs b = some q → PyData.eqvAll p q = true → a = b
  | n, [], [], _, _, _, _, _, _, _ => rfl
  | n, [], y :: ys, p, q, _, _, h1, h2, h => by
    rw [toPs.eq_def] at h1 h2
    dsimp only at h1 h2
    cases h1
    match e1 : toP y, e2 : toPs ys with
    | some c, some d => rw [e1, e2] at h2; cases h2; simp [PyData.eqvAll] at h
    | none, _ => rw [e1] at h2; cases h2
    | some _, none => rw [e1, e2] at h2; cases h2
  | n, x :: xs, [], p, q, _, _, h1, h2, h => by
    rw [toPs.eq_def] at h1 h2
    dsimp only at h1 h2
    cases h2
    match e1 : toP x, e2 : toPs xs with
    | some c, some d => rw [e1, e2] at h1; cases h1; simp [PyData.eqvAll] at h
    | none, _ => rw [e1] at h1; cases h1
    | some _, none => rw [e1, e2] at h1; cases h1
  | n, x :: xs, y :: ys, p, q, ha, hb, h1, h2, h => by
    rw [toPs] at h1 h2
    rw [okPs, Bool.and_eq_true] at ha hb
    match e1 : toP x, e2 : toPs xs, e3 : toP y, e4 : toPs ys with
    | some c, some d, some c', some d' =>
      rw [e1, e2] at h1; rw [e3, e4] at h2
      cases h1; cases h2
      rw [PyData.eqvAll, Bool.and_eq_true] at h
      rw [toP_inj ha.1 hb.1 e1 e3 h.1, toPs_inj ha.2 hb.2 e2 e4 h.2]
    | none, _, _, _ => rw [e1] at h1; cases h1
    | some _, none, _, _ => rw [e1, e2] at h1; cases h1
    | some _, some _, none, _ => rw [e3] at h2; cases h2
    | some _, some _, some _, none => rw [e3, e4] at h2; cases h2
end
noncomputable def eqD (a b : D) : Bool := @decide (a = b) (Classical.propDecidable _)
theorem eqD_iff (a b : D) : eqD a b = true ↔ a = b := by unfold eqD; exact @decide_eq_true_iff _ (Classical.propDecidable _)
@[simp] theorem eqD_self (a : D) : eqD a a = true := (eqD_iff a a).mpr rfl
theorem eqD_dec {a b : D} {p : Prop} [Decidable p] (h : a = b ↔ p) : eqD a b = decide p := by
  rw [Bool.eq_iff_iff, eqD_iff, decide_eq_true_iff, h]
/-- a value as it is compared -/
def asD (x : S) (st : List O) : Option D := match x with
  | .val d => some d
  | .obj _ => match lstOf x st with
    | some l => (datas l).map .lst
    | none => none
theorem asD_toPS {x : S} {st : List O} {d : D} (h : asD x st = some d) : toPS x st = toP d := by
  unfold asD at h
  unfold toPS
  cases x with
  | val d' => cases h; rfl
  | obj k =>
    dsimp only at h ⊢
    match e : lstOf (.obj k) st with
    | none => rw [e] at h; cases h
    | some l =>
      rw [e] at h
      dsimp only at h ⊢
      obtain ⟨ds, h1, rfl⟩ := Option.map_eq_some_iff.mp h
      rw [h1, toP]; rfl
theorem gEqB_eq {x y : S} {st : List O} {a b : D} (neg : Bool) (hx : asD x st = some a) (hy : asD y st = some b) (ha : okP false 60 a = true) (hb : okP false 60 b = true) : gEqB neg x y st = some (.ok (.val (.bl (if neg = true then !eqD a b else eqD a b))), st) := by
  obtain ⟨p, h1, h2, h3⟩ := okP_toP ha
  obtain ⟨q, h4, h5, h6⟩ := okP_toP hb
  unfold gEqB
  rw [asD_toPS hx, asD_toPS hy, h1, h4]
  have s1 : SeqAt.shaped p = true := by unfold SeqAt.shaped; rw [h2]; simp; omega
  have s2 : SeqAt.shaped q = true := by unfold SeqAt.shaped; rw [h5]; simp; omega
  have e : PyData.eqv p q = eqD a b := by
    rw [Bool.eq_iff_iff, eqD_iff]
    refine ⟨fun h => toP_inj ha hb h1 h4 h, fun h => ?_⟩
    subst h
    rw [h1] at h4
    cases h4
    exact SeqAt.eqv_refl p h2
  dsimp only
  rw [if_pos ⟨s1, s2⟩, e]
/-- a value is equal to itself, bools too -/
theorem gEq_refl {x y : S} {st : List O} {a : D} (neg : Bool) (hx : asD x st = some a) (hy : asD y st = some a) (ha : okP true 60 a = true) : gEqB neg x y st = some (.ok (.val (.bl (!neg))), st) := by
  obtain ⟨p, h1, h2, h3⟩ := okP_toP ha
  unfold gEqB
  rw [asD_toPS hx, asD_toPS hy, h1]
  have s1 : SeqAt.shaped p = true := by unfold SeqAt.shaped; rw [h2]; simp; omega
  dsimp only
  rw [if_pos ⟨s1, s1⟩, SeqAt.eqv_refl p h2]
  cases neg <;> rfl
end G
namespace Cl
open PySem L2
/-- with a way out: a return, an error -/
def outOk : Option (Fl × Sl × List O) → Bool
  | some (.rt _, _, _) => true
  | some (.xc _, _, _) => true
  | _ => false
theorem for_out {C : List O → Prop} {g : MG} {b : MS} {d : S} {ds : List S} {sl sl1 : Sl} {st st1 : List O} {r : Option (Fl × Sl × List O)} (h : C st) (h1 : g d sl st = some (sl1, st1)) (h2 : b sl1 st1 = r) (ho : outOk r = true) : forL C g b (d :: ds) sl st = r := by
  rw [forL, if_pos h, h1]
  simp only [h2]
  match r, ho with
  | some (.rt _, _, _), _ => rfl
  | some (.xc _, _, _), _ => rfl
theorem while_out {c : MT} {b : MS} {sl : Sl} {st st1 : List O} {r : Option (Fl × Sl × List O)} (h1 : c sl st = some (.ok true, st1)) (h2 : b sl st1 = r) (ho : outOk r = true) : sWhile c b sl st = r := by
  rw [while_eq, h1]
  simp only [h2]
  match r, ho with
  | some (.rt _, _, _), _ => rfl
  | some (.xc _, _, _), _ => rfl
/-- comprehensions over data -/
theorem lcL_map {α : Type} {C : List O → Prop} {g : MG} {t : MT} {e : ME} {sl : Sl} {st : List O} (v : α → S) (p : α → Bool) (f : α → D) (hC : C st) : ∀ (xs : List α) (acc : List D), acc.length + xs.length ≤ sizeLine →
    (∀ a ∈ xs, ∃ sl1, g (v a) sl st = some (sl1, st) ∧ t sl1 st = some (.ok (p a), st) ∧ (p a = true → e sl1 st = some (.ok (.val (f a)), st))) → lcL C g t e sl (xs.map v) acc st = some (acc ++ (xs.filter p).map f, st)
  | [], acc, _, _ => by rw [List.map_nil, lcL, if_pos hC]; simp
  | a :: xs, acc, hl, h => by
    simp only [List.length_cons] at hl
    obtain ⟨sl1, h1, h2, h3⟩ := h a List.mem_cons_self
    rw [List.map_cons, lcL, if_pos hC, h1]
    simp only
    rw [h2]
    cases hp : p a with
    | false =>
      simp only
      rw [lcL_map v p f hC xs acc (by omega) fun a ha => h a (List.mem_cons_of_mem _ ha)]
      simp [hp]
    | true =>
      simp only
      simp only [M.bind, h3 hp, toD, M.pure]
      rw [if_pos (by omega), lcL_map v p f hC xs (acc ++ [f a]) (by simp; omega) fun a ha => h a (List.mem_cons_of_mem _ ha)]
      simp [hp]
theorem eLc_map {α : Type} {vs : List Nat} {fi : MI} {g : MG} {t : MT} {e : ME} {sl : Sl} {st : List O} {C : List O → Prop} (v : α → S) (p : α → Bool) (f : α → D) (xs : List α) (hfi : fi sl st = some (.ok (xs.map v, C), st)) (hC : C st) (hz : xs.length ≤ sizeLine)
    (h : ∀ a ∈ xs, ∃ sl1, g (v a) (wipeS sl vs) st = some (sl1, st) ∧ t sl1 st = some (.ok (p a), st) ∧ (p a = true → e sl1 st = some (.ok (.val (f a)), st))) : eLc vs fi g t e sl st = some (.ok (.val (.lst ((xs.filter p).map f))), st) := by
  unfold eLc
  simp only [M.bind, hfi]
  rw [lcL_map v p f hC xs [] (by simpa using hz) h]
  simp
theorem eLc_all {α : Type} {vs : List Nat} {fi : MI} {g : MG} {e : ME} {sl : Sl} {st : List O} {C : List O → Prop} (v : α → S) (f : α → D) (xs : List α) (hfi : fi sl st = some (.ok (xs.map v, C), st)) (hC : C st) (hz : xs.length ≤ sizeLine)
    (h : ∀ a ∈ xs, ∃ sl1, g (v a) (wipeS sl vs) st = some (sl1, st) ∧ e sl1 st = some (.ok (.val (f a)), st)) : eLc vs fi g tTrue e sl st = some (.ok (.val (.lst (xs.map f))), st) := by
  rw [eLc_map v (fun _ => true) f xs hfi hC hz fun a ha => by
    obtain ⟨sl1, h1, h2⟩ := h a ha
    exact ⟨sl1, h1, rfl, fun _ => h2⟩]
  rw [List.filter_eq_self.mpr (by simp)]
end Cl
namespace G
open PySem L2 Cl
noncomputable def t1__law_random : MT := (tBin gGe (eVar 3) (eBin gPow (eC (.int 10)) (eC (.int 18))))
noncomputable def e1__law_random : ME := (eVar 3)
noncomputable def l1__law_random : MS := (sSet 2 (eBin gMod (eBin gAdd (eBin gMulI (eVar 2) (eC (.int 31))) (eArgs (g1 gAbs) (aCons (eVar 3) aNil))) (eC (.int 2147483647))))
noncomputable def b__law_random : MS := (sSeq (sSet 2 (eVar 1))
    (sSeq (sFor (iOf (eVar 0)) (tgName 3) l1__law_random)
    (sRet (eBin gCatO (eArgs gLst (aCons (eVar 2) (aCons (eC (.int 0)) aNil))) (eLc [3] (iOf (eVar 0)) (tgName 3) t1__law_random e1__law_random)))))
noncomputable def F__law_random : PF := asN 4 b__law_random
noncomputable def b__law_below : MS := (sSeq (sIf (tAndM (tBin gEq (eBin gIx (eVar 0) (eC (.int 1))) (eC (.int 0))) (tBin gGt (eArgs (g1 gLen) (aCons (eVar 0) aNil)) (eC (.int 2)))) (sSetItem (eVar 0) (eC (.int 1)) (eBM "list" gPopAt (eVar 0) (aCons (eC (.int 2)) aNil))) sNext)
    (sSeq (sIf (tBin gGt (eBin gIx (eVar 0) (eC (.int 1))) (eC (.int 0))) (sSeq (sSet 2 (eBin gMod (eBin gIx (eVar 0) (eC (.int 1))) (eVar 1)))
    (sSeq (sSetItem (eVar 0) (eC (.int 1)) (eBin gDiv (eBin gIx (eVar 0) (eC (.int 1))) (eVar 1)))
    (sRet (eVar 2)))) sNext)
    (sSeq (sSetItem (eVar 0) (eC (.int 0)) (eBin gMod (eBin gAdd (eBin gMulI (eBin gIx (eVar 0) (eC (.int 0))) (eC (.int 48271))) (eC (.int 11))) (eC (.int 2147483647))))
    (sRet (eBin gMod (eBin gDiv (eBin gIx (eVar 0) (eC (.int 0))) (eC (.int 64))) (eVar 1))))))
noncomputable def F__law_below : OF := asK 3 b__law_below
end G
namespace G
open PySem L2 Cl
def dO (d : List Int) : O := .lst (d.map iV)
def GoodD (d : List Int) : Prop := ∃ s c r, d = s :: c :: r ∧ 0 ≤ s ∧ s < 2147483647 ∧ 0 ≤ c ∧ ∀ x ∈ r, (0 : Int) < x
def nextD (d : List Int) (n : Int) : Int × List Int := match d with
  | s :: c :: r => if 0 < c then (c % n, s :: (c / n) :: r) else (match r with
    | [] => (((s * 48271 + 11) % 2147483647) / 64 % n, [(s * 48271 + 11) % 2147483647, c])
    | x :: r => (x % n, s :: (x / n) :: r))
  | d => (0, d)
theorem atI0 {α : Type} (a : α) (l : List α) : atI (a :: l) 0 = some a := Cl.atI_nat (i := 0) rfl
theorem atI1 {α : Type} (a b : α) (l : List α) : atI (a :: b :: l) 1 = some b := Cl.atI_nat (i := 1) rfl
theorem ix0 (n : Nat) : ixN (n + 1) 0 = some 0 := by unfold ixN; simp
theorem ix1 (n : Nat) : ixN (n + 1 + 1) 1 = some 1 := by unfold ixN; simp; omega
theorem below_run {d : List Int} (hd : GoodD d) {n : Int} (hn : 0 < n) (hn2 : n < 1073741824) {k : Nat} {st : List O} (hk : st[k]? = some (dO d)) :
    F__law_below [.obj k, .val (.int n)] st = some (.ok (.val (.int (nextD d n).1)), st.set k (dO (nextD d n).2)) := by
  obtain ⟨s, c, r, rfl, s0, s1, c0, r0⟩ := hd
  have hkl : k < st.length := (List.getElem?_eq_some_iff.mp hk).1
  simp only [dO, List.map_cons] at hk
  have gs : ∀ o : O, (st.set k o)[k]? = some o := fun o => List.getElem?_set_self hkl
  by_cases hc : 0 < c
  · have hc0 : ¬ c = 0 := by omega
    simp [F__law_below, b__law_below, hk, gs, gIx, atI1, gEq_int, hc0, hc, hn, hn2, gSetL, ix1, nextD, dO]
  · have hc0 : c = 0 := by omega
    subst hc0
    cases r with
    | nil => simp [F__law_below, b__law_below, hk, gs, gIx, atI0, atI1, gEq_int, gLen, hn, hn2, gSetL, ix0, nextD, s0, s1, dO]
    | cons x r =>
      have hx : 0 < x := r0 x List.mem_cons_self
      have hx0 : ¬ x = 0 := by omega
      have h2 : (2 : Int) < r.length + 1 + 1 + 1 := by omega
      have ei : seqIndex? 2 (r.length + 1 + 1 + 1) = some 2 := by unfold seqIndex?; simp; omega
      simp [F__law_below, b__law_below, hk, gs, gIx, atI0, atI1, gEq_int, gLen, gPopAt, ei, h2, hx, hn, hn2, gSetL, ix1, nextD, dO]
theorem next_good {d : List Int} (hd : GoodD d) {n : Int} (hn : 0 < n) : GoodD (nextD d n).2 ∧ 0 ≤ (nextD d n).1 ∧ (nextD d n).1 < n := by
  obtain ⟨s, c, r, rfl, s0, s1, c0, r0⟩ := hd
  have hm : ∀ x : Int, 0 ≤ x % n ∧ x % n < n := fun x => ⟨Int.emod_nonneg x (by omega), Int.emod_lt_of_pos x hn⟩
  have hq : ∀ x : Int, 0 ≤ x → 0 ≤ x / n := fun x hx => Int.ediv_nonneg hx (by omega)
  unfold nextD
  by_cases hc : 0 < c
  · simp only [hc, if_true]
    exact ⟨⟨s, c / n, r, rfl, s0, s1, hq c c0, r0⟩, hm c⟩
  · simp only [hc, if_false]
    cases r with
    | nil => exact ⟨⟨_, c, [], rfl, by omega, by omega, c0, by simp⟩, hm _⟩
    | cons x r => exact ⟨⟨s, x / n, r, rfl, s0, s1, hq x (Int.le_of_lt (r0 x List.mem_cons_self)), fun y hy => r0 y (List.mem_cons_of_mem _ hy)⟩, hm x⟩
/-- the way it is used: some number below n -/
theorem below_eq {d : List Int} (hd : GoodD d) {n : Nat} (hn : 0 < n) (hn2 : n < 1073741824) {k : Nat} {st : List O} (hk : st[k]? = some (dO d)) :
    ∃ (r : Nat) (d' : List Int), r < n ∧ GoodD d' ∧ F__law_below [.obj k, .val (.int n)] st = some (.ok (.val (.int r)), st.set k (dO d')) := by
  have h := next_good hd (n := n) (by omega)
  refine ⟨(nextD d n).1.toNat, (nextD d n).2, by omega, h.1, ?_⟩
  rw [below_run hd (by omega) (by omega) hk, Int.toNat_of_nonneg h.2.1]
end G
namespace G
open PySem L2 Cl
def lexR (l : Nat) (m : List Nat) (c : Nat) : List Tk × Option Nat := match m with
  | [] => ([], none)
  | a :: r => if a = 32 ∨ a = 10 then lexR l r (c + 1) else match readT (a :: r) l c with
    | none => ([], some c)
    | some t => (t :: (lexR l (r.drop (t.t.length - 1)) (c + t.t.length)).1, (lexR l (r.drop (t.t.length - 1)) (c + t.t.length)).2)
termination_by m.length
decreasing_by all_goals (simp only [List.length_drop, List.length_cons]; omega)
theorem readT_len {a : Nat} {r : List Nat} {l c : Nat} {t : Tk} (h : readT (a :: r) l c = some t) : 1 ≤ t.t.length ∧ t.t.length ≤ r.length + 1 ∧ okC t.t ∨ ¬ okC (a :: r) := by
  by_cases ho : okC (a :: r)
  · left
    have sub : ∀ p : Nat → Bool, okC ((a :: r).takeWhile p) := fun p x hx => ho x ((List.takeWhile_prefix p).subset hx)
    have len : ∀ p : Nat → Bool, ((a :: r).takeWhile p).length ≤ r.length + 1 := fun p => tw_len p (a :: r)
    unfold readT at h
    dsimp only at h
    split at h
    · cases h; exact ⟨Nat.le_refl _, Nat.succ_le_succ (Nat.zero_le _), fun x hx => by rw [List.mem_singleton.mp hx]; decide⟩
    · split at h
      · rename_i hd
        split at h
        · cases h
        · cases h
          refine ⟨?_, len _, sub _⟩
          simp [List.takeWhile_cons, hd]
      · split at h
        · rename_i hk
          cases h
          refine ⟨?_, len _, sub _⟩
          rcases Nat.eq_zero_or_pos ((a :: r).takeWhile isLet).length with hz | hz
          · rw [List.length_eq_zero_iff.mp hz] at hk
            exact absurd hk (by unfold keyW; simp only [Sc_of, List.mem_cons, Sc_eq, List.not_mem_nil, or_false]; decide)
          · exact hz
        · split at h
          · rename_i h1
            cases h
            exact ⟨h1.1, len _, sub _⟩
          · cases h
  · exact .inr ho
abbrev tV (t : Tk) : S := .val t.d
theorem row_loop {row : List Nat} (hR : row.length ≤ 8000000) (hok : okC row) (src rows : Option S) (l : Nat) : ∀ (n : Nat) (m : List Nat) (c : Nat) (ts : List Tk) (x : Option S), m.length ≤ n → row.drop c = m → c ≤ row.length → ts.length + m.length ≤ 16000000 →
    (∀ ts', lexR l m c = (ts', none) → ∃ x', sWhile c1_tokenize l1_tokenize [src, some (.obj 0), rows, some (iV l), some (.val (.str (Sc row))), some (iV c), x] [.lst (ts.map tV)] =
      some (.nx, [src, some (.obj 0), rows, some (iV l), some (.val (.str (Sc row))), some (iV row.length), x'], [.lst ((ts ++ ts').map tV)])) ∧
    (∀ ts' cf, lexR l m c = (ts', some cf) → ∃ sl st, sWhile c1_tokenize l1_tokenize [src, some (.obj 0), rows, some (iV l), some (.val (.str (Sc row))), some (iV c), x] [.lst (ts.map tV)] = some (.xc (synX l cf), sl, st)) := by
  have hz : row.length ≤ sizeLine := Nat.le_of_lt (sizes (by omega))
  have stop : ∀ (c : Nat) (ts : List Tk) (x : Option S), row.drop c = [] → c ≤ row.length → (∀ ts', lexR l [] c = (ts', none) → ∃ x', sWhile c1_tokenize l1_tokenize [src, some (.obj 0), rows, some (iV l), some (.val (.str (Sc row))), some (iV c), x] [.lst (ts.map tV)] =
      some (.nx, [src, some (.obj 0), rows, some (iV l), some (.val (.str (Sc row))), some (iV row.length), x'], [.lst ((ts ++ ts').map tV)])) ∧
    (∀ ts' cf, lexR l [] c = (ts', some cf) → ∃ sl st, sWhile c1_tokenize l1_tokenize [src, some (.obj 0), rows, some (iV l), some (.val (.str (Sc row))), some (iV c), x] [.lst (ts.map tV)] = some (.xc (synX l cf), sl, st)) := fun c ts x hm hc => by
    have hcr : c = row.length := by
      have := List.drop_eq_nil_iff.mp hm
      omega
    subst hcr
    rw [lexR]
    refine ⟨fun ts' h => ⟨x, ?_⟩, fun ts' cf h => by simp at h⟩
    simp only [Prod.mk.injEq, and_true] at h
    subst h
    rw [while_stop (st1 := [.lst (ts.map tV)])]
    · simp
    · simp [c1_tokenize, gLen, hz]
  intro n
  induction n with
  | zero =>
    intro m c ts x hn hm hc hl
    have : m = [] := List.length_eq_zero_iff.mp (by omega)
    subst this
    exact stop c ts x hm hc
  | succ n ih =>
    intro m c ts x hn hm hc hl
    match m, hm, hn, hl with
    | [], hm, hn, hl => exact stop c ts x hm hc
    | a :: r, hm, hn, hl =>
      simp only [List.length_cons] at hn hl
      have hca : row[c]? = some a := by
        have := congrArg (fun z => z[0]?) hm
        simpa using this
      have hcl : c < row.length := (List.getElem?_eq_some_iff.mp hca).1
      have hci : (c : Int) < row.length := by omega
      have ha := Cl.atI_nat hca
      have hd : ∀ k, row.drop (c + (k + 1)) = r.drop k := fun k => by
        rw [← List.drop_drop, hm]; rfl
      have hrl : r.length + c + 1 = row.length := by
        have := congrArg List.length hm
        simp only [List.length_drop, List.length_cons] at this
        omega
      have hcond : c1_tokenize [src, some (.obj 0), rows, some (iV l), some (.val (.str (Sc row))), some (iV c), x] [.lst (ts.map tV)] = some (.ok true, [.lst (ts.map tV)]) := by
        simp [c1_tokenize, gLen, hz, hci]
      rw [lexR]
      by_cases hs : a = 32 ∨ a = 10
      · have hgo : l1_tokenize [src, some (.obj 0), rows, some (iV l), some (.val (.str (Sc row))), some (iV c), x] [.lst (ts.map tV)] = some (.nx, [src, some (.obj 0), rows, some (iV l), some (.val (.str (Sc row))), some (iV ((c + 1 : Nat) : Int)), x], [.lst (ts.map tV)]) := by
          unfold l1_tokenize
          rw [lit_sp]
          simp [gIx, hz, ha, in_str, hs]
        rw [while_go hcond hgo]
        simp only [hs, if_true]
        exact ih r (c + 1) ts x (by omega) (hd 0) (by omega) (by omega)
      · simp only [hs, if_false]
        have hr := read_eq (by omega) hok l c hm
        cases ht : readT (a :: r) l c with
        | none =>
          rw [ht] at hr
          refine ⟨fun ts' h => ?_, fun ts' cf h => ?_⟩
          · simp at h
          · simp only [Prod.mk.injEq, Option.some.injEq] at h
            obtain ⟨_, rfl⟩ := h
            refine ⟨_, _, while_out hcond (r := some (.xc (synX l c), [src, some (.obj 0), rows, some (iV l), some (.val (.str (Sc row))), some (iV c), x], [.lst (ts.map tV)])) ?_ rfl⟩
            unfold l1_tokenize
            rw [lit_sp]
            have hs' : ¬ (a ∈ [32, 10]) := by simpa using hs
            simp only [List.mem_cons, List.not_mem_nil, or_false] at hs'
            simp [gIx, hz, ha, in_str, hs', hr]
        | some t =>
          rw [ht] at hr
          rcases readT_len ht with ⟨t1, t2, t3⟩ | hbad
          · have hgo : l1_tokenize [src, some (.obj 0), rows, some (iV l), some (.val (.str (Sc row))), some (iV c), x] [.lst (ts.map tV)] = some (.nx, [src, some (.obj 0), rows, some (iV l), some (.val (.str (Sc row))), some (iV ((c + t.t.length : Nat) : Int)), some (tV t)], [.lst ((ts ++ [t]).map tV)]) := by
              unfold l1_tokenize
              rw [lit_sp]
              have hs' : ¬ (a ∈ [32, 10]) := by simpa using hs
              simp only [List.mem_cons, List.not_mem_nil, or_false] at hs'
              have z1 : ts.length < sizeLine := sizes (by omega)
              have z2 : t.t.length ≤ sizeLine := Nat.le_of_lt (sizes (by omega))
              simp [gIx, hz, ha, in_str, hs', hr, gAppend, z1, gLen, z2]
            rw [while_go hcond hgo]
            obtain ⟨i1, i2⟩ := ih (r.drop (t.t.length - 1)) (c + t.t.length) (ts ++ [t]) (some (tV t)) (by rw [List.length_drop]; omega) (by rw [← hd (t.t.length - 1)]; congr 1; omega) (by omega) (by rw [List.length_drop, List.length_append, List.length_singleton]; omega)
            refine ⟨fun ts' h => ?_, fun ts' cf h => ?_⟩
            · simp only [Prod.mk.injEq] at h
              obtain ⟨h1, h2⟩ := h
              obtain ⟨x', e⟩ := i1 _ (Prod.ext rfl h2)
              exact ⟨x', by rw [e, ← h1]; simp⟩
            · simp only [Prod.mk.injEq] at h
              obtain ⟨h1, h2⟩ := h
              exact i2 _ cf (Prod.ext rfl h2)
          · exact absurd (fun y hy => hok y (List.mem_of_mem_drop (by rw [hm]; exact hy))) hbad
theorem lexR_len (l : Nat) : ∀ (n : Nat) (m : List Nat) (c : Nat), m.length ≤ n → (lexR l m c).1.length ≤ m.length := by
  intro n
  induction n with
  | zero =>
    intro m c h
    have : m = [] := List.length_eq_zero_iff.mp (by omega)
    subst this
    rw [lexR]; simp
  | succ n ih =>
    intro m c h
    match m with
    | [] => rw [lexR]; simp
    | a :: r =>
      simp only [List.length_cons] at h
      rw [lexR]
      split
      · have := ih r (c + 1) (by omega)
        simp only [List.length_cons]; omega
      · split
        · simp
        · rename_i t _
          have := ih (r.drop (t.t.length - 1)) (c + t.t.length) (by rw [List.length_drop]; omega)
          rw [List.length_drop] at this
          simp only [List.length_cons]; omega
/-- all rows -/
def lexA (l : Nat) : List (List Nat) → List Tk × Option (Nat × Nat)
  | [] => ([], none)
  | r :: rs => match lexR l r 0 with
    | (ts, some c) => (ts, some (l, c))
    | (ts, none) => (ts ++ (lexA (l + 1) rs).1, (lexA (l + 1) rs).2)
theorem rows_loop (src rows : Option S) (C : List O → Prop) : ∀ (rs : List (List Nat)) (l : Nat) (ts : List Tk) (x3 x4 x5 x6 : Option S), (∀ ts : List Tk, C [.lst (ts.map tV)]) → (∀ r ∈ rs, okC r) → ts.length + (rs.map List.length).sum ≤ 8000000 →
    (∀ ts', lexA l rs = (ts', none) → ∃ x3' x4' x5' x6', forL C (tgTup 2 (tgCons (tgName 3) (tgCons (tgName 4) tgNil))) l2_tokenize ((enumD l (rs.map fun r => .str (Sc r))).map .val) [src, some (.obj 0), rows, x3, x4, x5, x6] [.lst (ts.map tV)] =
      some (.nx, [src, some (.obj 0), rows, x3', x4', x5', x6'], [.lst ((ts ++ ts').map tV)])) ∧
    (∀ ts' lf cf, lexA l rs = (ts', some (lf, cf)) → ∃ sl st, forL C (tgTup 2 (tgCons (tgName 3) (tgCons (tgName 4) tgNil))) l2_tokenize ((enumD l (rs.map fun r => .str (Sc r))).map .val) [src, some (.obj 0), rows, x3, x4, x5, x6] [.lst (ts.map tV)] = some (.xc (synX lf cf), sl, st))
  | [], l, ts, x3, x4, x5, x6, hC, _, _ => by
    refine ⟨fun ts' h => ⟨x3, x4, x5, x6, ?_⟩, fun ts' lf cf h => by simp [lexA] at h⟩
    simp only [lexA, Prod.mk.injEq, and_true] at h
    subst h
    rw [List.map_nil, enumD, List.map_nil, for_nil (hC ts)]
    simp
  | r :: rs, l, ts, x3, x4, x5, x6, hC, hok, hl => by
    simp only [List.map_cons, List.sum_cons] at hl
    have hr := row_loop (by omega) (hok r List.mem_cons_self) src rows l r.length r 0 ts x6 (Nat.le_refl _) rfl (Nat.zero_le _) (by omega)
    have g : ∀ st : List O, tgTup 2 (tgCons (tgName 3) (tgCons (tgName 4) tgNil)) (.val (.tup [.int l, .str (Sc r)])) [src, some (.obj 0), rows, x3, x4, x5, x6] st = some ([src, some (.obj 0), rows, some (iV l), some (.val (.str (Sc r))), x5, x6], st) := fun st => by simp
    rw [List.map_cons, enumD, List.map_cons]
    rw [lexA]
    match hx : lexR l r 0 with
    | (ts1, some c) =>
      refine ⟨fun ts' h => by simp at h, fun ts' lf cf h => ?_⟩
      simp only [Prod.mk.injEq, Option.some.injEq] at h
      obtain ⟨_, rfl, rfl⟩ := h
      obtain ⟨sl, st, e⟩ := hr.2 _ _ hx
      refine ⟨sl, st, for_out (hC ts) (g _) ?_ rfl⟩
      unfold l2_tokenize
      simp only [show ((0 : Nat) : Int) = 0 from rfl] at e
      simp [e]
    | (ts1, none) =>
      obtain ⟨x', e⟩ := hr.1 _ hx
      have hb : l2_tokenize [src, some (.obj 0), rows, some (iV l), some (.val (.str (Sc r))), x5, x6] [.lst (ts.map tV)] = some (.nx, [src, some (.obj 0), rows, some (iV l), some (.val (.str (Sc r))), some (iV r.length), x'], [.lst ((ts ++ ts1).map tV)]) := by
        unfold l2_tokenize
        simp at e
        simp [e]
      rw [for_cons (hC ts) (g _) hb]
      have hlen := lexR_len l r.length r 0 (Nat.le_refl _)
      rw [hx] at hlen
      obtain ⟨i1, i2⟩ := rows_loop src rows C rs (l + 1) (ts ++ ts1) (some (iV l)) (some (.val (.str (Sc r)))) (some (iV r.length)) x' hC (fun r hr => hok r (List.mem_cons_of_mem _ hr)) (by rw [List.length_append]; simp only at hlen; omega)
      refine ⟨fun ts' h => ?_, fun ts' lf cf h => ?_⟩
      · simp only [Prod.mk.injEq] at h
        obtain ⟨h1, h2⟩ := h
        obtain ⟨y3, y4, y5, y6, e⟩ := i1 _ (Prod.ext rfl h2)
        exact ⟨y3, y4, y5, y6, by rw [e, ← h1]; simp⟩
      · simp only [Prod.mk.injEq] at h
        obtain ⟨h1, h2⟩ := h
        exact i2 _ lf cf (Prod.ext rfl h2)
theorem pre10 (c : Nat) (r : List Nat) : TL.pre [10] (c :: r) = decide (c = 10) := by
  unfold TL.pre
  rw [Bool.eq_iff_iff]
  simp
theorem spl10 (s : List Nat) : ∀ acc : List Nat, (∀ r ∈ TL.spl [10] 0 acc s, ∀ c ∈ r, c ∈ acc ∨ c ∈ s) ∧ ((TL.spl [10] 0 acc s).map List.length).sum ≤ acc.length + s.length ∧ (TL.spl [10] 0 acc s).length ≤ s.length + 1 := by
  induction s with
  | nil => intro acc; simp [TL.spl]
  | cons c s ih =>
    intro acc
    have ev : TL.spl [10] 0 acc (c :: s) = if decide (c = 10) = true then acc :: TL.spl [10] 0 [] s else TL.spl [10] 0 (acc ++ [c]) s := by
      rw [← pre10 c s]; rfl
    rw [ev]
    by_cases h : c = 10
    · obtain ⟨i1, i2, i3⟩ := ih []
      simp only [h, decide_true, if_true, List.length_singleton, Nat.sub_self, List.map_cons, List.sum_cons, List.length_cons]
      refine ⟨fun r hr d hd => ?_, by simp at i2; omega, by omega⟩
      rcases List.mem_cons.mp hr with rfl | hr
      · exact .inl hd
      · rcases i1 r hr d hd with h | h
        · cases h
        · exact .inr (List.mem_cons_of_mem _ h)
    · obtain ⟨i1, i2, i3⟩ := ih (acc ++ [c])
      simp only [h, decide_false, Bool.false_eq_true, if_false, List.length_cons]
      refine ⟨fun r hr d hd => ?_, by simp at i2; omega, by omega⟩
      rcases i1 r hr d hd with h | h
      · rcases List.mem_append.mp h with h | h
        · exact .inl h
        · exact .inr (by rw [List.mem_singleton.mp h]; exact List.mem_cons_self)
      · exact .inr (List.mem_cons_of_mem _ h)
theorem lexA_len (l : Nat) (rs : List (List Nat)) : (lexA l rs).1.length ≤ (rs.map List.length).sum := by
  induction rs generalizing l with
  | nil => simp [lexA]
  | cons r rs ih =>
    rw [lexA]
    have h := lexR_len l r.length r 0 (Nat.le_refl _)
    have h2 := ih (l + 1)
    split
    · rename_i e; rw [e] at h; simp only [List.map_cons, List.sum_cons]; simp only at h; omega
    · rename_i e; rw [e] at h; simp only [List.map_cons, List.sum_cons, List.length_append]; simp only at h; omega
theorem tokenize_eq {s : List Nat} (hok : okC s) (hl : s.length ≤ 4000000) : F_tokenize [.str (Sc s)] = match lexA 0 (TL.spl [10] 0 [] s) with
    | (ts, none) => some (.ok (.lst (ts.map Tk.d ++ [tokD "end" "" (TL.spl [10] 0 [] s).length 0])))
    | (_, some (l, c)) => some (.error (synX l c)) := by
  obtain ⟨r1, r2, r3⟩ := spl10 s []
  have hs := SX.split_S (a := s) (b := [10]) (by simp) (by decide)
  have hsp : gSplit (.val (.str (Sc s))) [.val (.str (Sc [10]))] [.lst []] = some (.ok (.val (.lst ((TL.spl [10] 0 [] s).map fun r => .str (Sc r)))), [.lst []]) := by
    have e : Txt.split (Sc s) (Sc [10]) = (TL.spl [10] 0 [] s).map Sc := hs
    have z : s.length + 2 ≤ sizeLine := Nat.le_of_lt (sizes (by omega))
    simp [gSplit, z, e, Function.comp_def]
  have hr := rows_loop (some (.val (.str (Sc s)))) (some (.val (.lst ((TL.spl [10] 0 [] s).map fun r => .str (Sc r))))) (fun _ => True) (TL.spl [10] 0 [] s) 0 [] none none none none (fun ts => trivial)
    (fun r hr c hc => by
      rcases r1 r hr c hc with h | h
      · cases h
      · exact hok c h) (by simp at r2 ⊢; omega)
  have hln := lexA_len 0 (TL.spl [10] 0 [] s)
  generalize TL.spl [10] 0 [] s = rs at *
  unfold F_tokenize asP b_tokenize
  rw [lit_nl]
  have z0 : (0 : Nat) ≤ sizeLine := Nat.zero_le _
  match hx : lexA 0 rs with
  | (ts, none) =>
    obtain ⟨x3, x4, x5, x6, e⟩ := hr.1 ts hx
    rw [hx] at hln
    simp only at hln
    have z1 : ts.length + 1 ≤ sizeLine := sizes (by simp at r2; omega)
    simp only [List.map_nil, List.nil_append] at e
    have dd : datas (ts.map tV) = some (ts.map Tk.d) := datas_comp Tk.d ts
    simp [gLstO, z0, hsp, gEnum, e, gLen, token_init, Cl.gLst, gAdd, gCat, dd, deepD, z1]
  | (ts, some (l, c)) =>
    obtain ⟨sl, st, e⟩ := hr.2 ts l c hx
    simp only [List.map_nil] at e
    simp [gLstO, z0, hsp, gEnum, e]
end G
namespace G
open PySem L2 Cl
abbrev KW := Str × List Nat
def kw (t : Tk) : KW := (t.k, t.t)
end G
namespace G
open PySem L2 Cl
def NmW (w : List Nat) : Prop := 1 ≤ w.length ∧ w.length ≤ 8 ∧ (∀ c ∈ w, isLet c = true) ∧ Sc w ∉ keyW
def KyW (w : List Nat) : Prop := Sc w ∈ keyW ∧ (∀ c ∈ w, isLet c = true) ∧ 1 ≤ w.length
def NuW (w : List Nat) : Prop := 1 ≤ w.length ∧ w.length ≤ 2 ∧ (∀ c ∈ w, isDig c = true) ∧ (w.length = 1 ∨ ∀ r, w ≠ 48 :: r)
inductive WdOk : KW → Prop
  | name {w : List Nat} : NmW w → WdOk ("name", w)
  | key {w : List Nat} : KyW w → WdOk ("keyword", w)
  | num {w : List Nat} : NuW w → WdOk ("number", w)
  | sign : WdOk ("sign", [59])
abbrev sgn : KW := ("sign", [59])
def Stop : List Nat → Prop
  | [] => True
  | c :: _ => isLet c = false ∧ isDig c = false
theorem tw_stop {p : Nat → Bool} {w rest : List Nat} (hw : ∀ c ∈ w, p c = true) (hr : ∀ c r, rest = c :: r → p c = false) : (w ++ rest).takeWhile p = w := by
  induction w with
  | nil =>
    cases rest with
    | nil => rfl
    | cons c r => rw [List.nil_append, List.takeWhile_cons, hr c r rfl]; rfl
  | cons a w ih =>
    rw [List.cons_append, List.takeWhile_cons, hw a List.mem_cons_self]
    simp only [if_true]
    rw [ih fun c hc => hw c (List.mem_cons_of_mem _ hc)]
theorem let_dig {c : Nat} (h : isLet c = true) : isDig c = false ∧ c ≠ 59 ∧ c ≠ 32 ∧ c ≠ 10 := by
  simp only [isLet, isDig, Bool.and_eq_true, decide_eq_true_eq, Bool.and_eq_false_iff, decide_eq_false_iff_not] at h ⊢
  omega
theorem dig_let {c : Nat} (h : isDig c = true) : isLet c = false ∧ c ≠ 59 ∧ c ≠ 32 ∧ c ≠ 10 := by
  simp only [isLet, isDig, Bool.and_eq_true, decide_eq_true_eq, Bool.and_eq_false_iff, decide_eq_false_iff_not] at h ⊢
  omega
theorem stop_let {rest : List Nat} (h : Stop rest) : ∀ c r, rest = c :: r → isLet c = false := fun c r e => by rw [e] at h; exact h.1
theorem stop_dig {rest : List Nat} (h : Stop rest) : ∀ c r, rest = c :: r → isDig c = false := fun c r e => by rw [e] at h; exact h.2
/-- a line: words with single spaces, a sign at the end -/
def lineOf (ws : List KW) : List Nat := TL.joinL [32] (ws.map (·.2)) ++ [59]
theorem wd_ok {x : KW} (h : WdOk x) : okC x.2 ∧ (∀ c ∈ x.2, c ≠ 10) ∧ x.2.length ≤ 8 := by
  have l1 : ∀ c, isLet c = true → c < 1114112 ∧ c ≠ 10 := fun c h => by simp only [isLet, Bool.and_eq_true, decide_eq_true_eq] at h; omega
  have l2 : ∀ c, isDig c = true → c < 1114112 ∧ c ≠ 10 := fun c h => by simp only [isDig, Bool.and_eq_true, decide_eq_true_eq] at h; omega
  cases h with
  | name h => exact ⟨fun c hc => (l1 c (h.2.2.1 c hc)).1, fun c hc => (l1 c (h.2.2.1 c hc)).2, h.2.1⟩
  | @key w h =>
    refine ⟨fun c hc => (l1 c (h.2.1 c hc)).1, fun c hc => (l1 c (h.2.1 c hc)).2, ?_⟩
    have h1 := h.1
    unfold keyW at h1
    simp only [Sc_of, List.mem_cons, Sc_eq, List.not_mem_nil, or_false] at h1
    show w.length ≤ 8
    rcases h1 with h | h | h | h | h | h | h <;> (rw [h]; decide)
  | num h => exact ⟨fun c hc => (l2 c (h.2.2.1 c hc)).1, fun c hc => (l2 c (h.2.2.1 c hc)).2, Nat.le_trans h.2.1 (by decide)⟩
  | sign => exact ⟨fun c hc => by rw [List.mem_singleton.mp hc]; decide, fun c hc => by rw [List.mem_singleton.mp hc]; decide, by decide⟩
end G
namespace G
open PySem L2 Cl
def kyw (s : String) : KW := ("keyword", s.toList.map Char.toNat)
theorem Sc_kyw (s : String) : Sc (kyw s).2 = Str.ofString s := (Sc_of s).symm
def nuw (n : Nat) : KW := ("number", TL.numL n)
def naw (w : List Nat) : KW := ("name", w)
theorem Num_num {n : Nat} (h : n < 100) : Num (Sc (TL.numL n)) n := by
  have hl := TL.numL_len (n := n) (k := 2) (by decide) (by omega)
  refine ⟨?_, by rw [Sc_len]; omega, ?_⟩
  · have := TL.int_num (n := n) (by omega)
    rw [SX.num_S] at this
    exact this
  · refine ok_Sc fun c hc => ?_
    have := TL.numL_digits n c hc
    omega
theorem nodup_len : ∀ {n : Nat} {js : List Nat}, js.Nodup → (∀ j ∈ js, j < n) → js.length ≤ n
  | 0, js, _, hj => by
    cases js with
    | nil => simp
    | cons a l => exact absurd (hj a List.mem_cons_self) (by omega)
  | n + 1, js, h, hj => by
    by_cases hm : n ∈ js
    · have h1 := nodup_len (n := n) (h.erase n) fun j hj' => by
        have h2 := hj j (List.mem_of_mem_erase hj')
        have h3 : j ≠ n := fun e => by
          rw [e] at hj'
          exact (h.mem_erase_iff.mp hj').1 rfl
        omega
      rw [List.length_erase_of_mem hm] at h1
      omega
    · have := nodup_len (n := n) h fun j hj' => by
        have h2 := hj j hj'
        have h3 : j ≠ n := fun e => hm (e ▸ hj')
        omega
      omega
end G
namespace G
open PySem L2 Cl
def runStep (fs : List (Nat × Nat)) (t : Nat) : List (Nat × Nat) := match fs.getLast? with
  | some (a, b) => if b + 1 = t then fs.dropLast ++ [(a, t)] else fs ++ [(t, t)]
  | none => [(t, t)]
def runsL (ps : List Nat) : List (Nat × Nat) := ps.foldl runStep []
abbrev prV (q : Nat × Nat) : S := .val (pr q.1 q.2)
theorem runStep_nil (t : Nat) : runStep [] t = [(t, t)] := rfl
theorem runStep_app (fs : List (Nat × Nat)) (a b t : Nat) : runStep (fs ++ [(a, b)]) t = if b + 1 = t then fs ++ [(a, t)] else fs ++ [(a, b), (t, t)] := by
  unfold runStep
  rw [List.getLast?_concat]
  simp
theorem runStep_len (fs : List (Nat × Nat)) (t : Nat) : (runStep fs t).length ≤ fs.length + 1 := by
  unfold runStep
  split
  · split
    · simp
    · simp
  · simp
theorem deepL_vals {α : Type} (f : α → D) (n : Nat) (st : List O) : ∀ l : List α, deepL n st (l.map fun a => S.val (f a)) = some (l.map f)
  | [] => by simp [deepL]
  | a :: l => by simp [deepL, deepD, deepL_vals f n st l]
theorem atIm1 {α : Type} (l : List α) (x : α) : atI (l ++ [x]) (-1) = some x := Cl.atI_last
end G
namespace G
open PySem L2 Cl
structure Pl where
  len : Nat
  most : Nat
  nms : List (List Nat)
  rks : List Nat
  sts : List (Nat × Nat × Nat)
  pau : List Nat
abbrev triD (s : Nat × Nat × Nat) : D := tri s.1 s.2.1 s.2.2
def strL (w : List Nat) : D := .str (Sc w)
def Pl.d (p : Pl) : D := .tup [.int p.len, .int p.most, .tup (p.nms.map strL), .lst (p.rks.map iD), .lst (p.sts.map triD), .lst (p.pau.map iD)]
structure Pok (p : Pl) : Prop where
  l1 : 1 ≤ p.len
  l2 : p.len ≤ 60
  m1 : 1 ≤ p.most
  m2 : p.most ≤ 9
  n1 : p.nms ≠ []
  n2 : p.nms.length ≤ 8
  nd : p.nms.Nodup
  nw : ∀ w ∈ p.nms, NmW w
  rk : p.rks.Perm (List.range p.nms.length)
  st : ∀ s ∈ p.sts, s.1 < p.len ∧ s.2.1 < p.nms.length ∧ 1 ≤ s.2.2 ∧ s.2.2 ≤ 30
  s20 : p.sts.length ≤ 20
  srt : p.sts.Pairwise fun a b => a.1 < b.1 ∨ (a.1 = b.1 ∧ a.2.1 ≤ b.2.1)
  pa : p.pau.Pairwise (· < ·)
  pl : ∀ t ∈ p.pau, t < p.len
/-- its lines' words -/
def Pl.lines (p : Pl) : List (List KW) :=
  [[kyw "round", nuw p.len], [kyw "open", nuw p.most], kyw "valves" :: p.nms.map naw] ++
  (if p.rks = List.range p.nms.length then [] else [kyw "rank" :: p.rks.map fun j => naw (p.nms.getD j [])]) ++
  (p.sts.map fun s => [kyw "start", naw (p.nms.getD s.2.1 []), nuw s.1, kyw "for", nuw s.2.2]) ++
  ((runsL p.pau).map fun q => [kyw "pause", nuw q.1, nuw q.2])
def Pl.text (p : Pl) : List Nat := TL.joinL [10] (p.lines.map lineOf)
theorem gStr_nat (n : Nat) (h : n < 1000000000000000000000) (st : List O) : gStr (.val (.int n)) st = some (.ok (.val (strL (TL.numL n))), st) := by
  have e : (toString ((n : Nat) : Int) : Str) = Sc (TL.numL n) := SX.num_S n
  have hl : ((n : Int)).natAbs.log2 < 1920 := by
    rw [Int.natAbs_natCast]
    rcases Nat.eq_zero_or_pos n with h0 | h0
    · subst h0; decide
    · exact (Nat.log2_lt (by omega)).mpr (Nat.lt_trans h (by decide))
  unfold gStr
  dsimp only
  rw [if_pos hl, e]
  rfl
theorem names_at {p : Pl} (h : Pok p) {j : Nat} (hj : j < p.nms.length) (st : List O) : gIx (.val (.tup (p.nms.map strL))) (.val (.int j)) st = some (.ok (.val (strL (p.nms.getD j []))), st) := by
  have e : ((p.nms.map strL).map S.val)[j]? = some (.val (strL (p.nms.getD j []))) := by
    rw [List.getElem?_map, List.getElem?_map, List.getElem?_eq_getElem hj]
    simp [List.getD, hj]
  simp [gIx, -List.map_map, Cl.atI_nat e]
theorem rks_lt {p : Pl} (h : Pok p) {j : Nat} (hj : j ∈ p.rks) : j < p.nms.length := List.mem_range.mp (h.rk.mem_iff.mp hj)
theorem rks_len {p : Pl} (h : Pok p) : p.rks.length = p.nms.length := by rw [h.rk.length_eq, List.length_range]
theorem okP_ints (b : Bool) (n : Nat) (l : List Nat) : okP b (n + 1) (.lst (l.map iD)) = true := by
  rw [okP, okPs_iff]
  intro d hd
  obtain ⟨q, _, rfl⟩ := List.mem_map.mp hd
  simp [okP]
theorem eqD_ints (l m : List Nat) : eqD (.lst (l.map iD)) (.lst (m.map iD)) = decide (l = m) := by
  refine eqD_dec ⟨fun h => ?_, fun h => by rw [h]⟩
  simp only [D.lst.injEq] at h
  exact (List.map_inj_right (fun a b e => by simp only [D.int.injEq] at e; omega)).mp h
theorem rgD_nat (n : Nat) : rgD 0 n = (List.range n).map iD := by simp [rgD]
end G
namespace G
open PySem L2 Cl
abbrev T3 := Nat × Nat × Nat
def lt3 (a b : T3) : Prop := a.1 < b.1 ∨ (a.1 = b.1 ∧ (a.2.1 < b.2.1 ∨ (a.2.1 = b.2.1 ∧ a.2.2 < b.2.2)))
instance (a b : T3) : Decidable (lt3 a b) := inferInstanceAs (Decidable (_ ∨ _))
end G
namespace Cl
open PySem L2
end Cl
namespace G
open PySem L2 Cl
/-- a store in which the source stands at k -/
def W (s : List O) (k : Nat) (d : List Int) : List O := s.set k (dO d)
section
variable {s : List O} {k : Nat} {d d' : List Int}
theorem W_get (hk : k < s.length) : (W s k d)[k]? = some (dO d) := List.getElem?_set_self hk
theorem W_getL (hk : k < s.length) : (W s k d)[k]? = some (.lst (d.map iV)) := W_get hk
@[simp] theorem W_len : (W s k d).length = s.length := List.length_set
theorem W_self : (W s k d).set k (dO d') = W s k d' := List.set_set _
end
section
variable {s : List O} {k i : Nat} {d d1 : List Int} {sl : Sl} {lim : ME} {n : Nat}
/-- below(d, limit) -/
theorem eBelow (h0 : sl[i]? = some (some (.obj k))) (hk : k < s.length) (hl : lim sl (W s k d) = some (.ok (iV n), W s k d1)) (hd : GoodD d1) (hn : 0 < n) (hn2 : n < 1073741824) :
    ∃ (r : Nat) (d2 : List Int), r < n ∧ GoodD d2 ∧ eArgs (gCallO 2 F__law_below []) (aCons (eVar i) (aCons lim aNil)) sl (W s k d) = some (.ok (iV r), W s k d2) := by
  obtain ⟨r, d2, h1, h2, h3⟩ := below_eq hd hn hn2 (W_get (d := d1) hk)
  refine ⟨r, d2, h1, h2, ?_⟩
  rw [W_self] at h3
  have g := W_getL (d := d) hk
  simp [h0, g, hl, h3]
theorem eBelowC (h0 : sl[i]? = some (some (.obj k))) (hk : k < s.length) (hd : GoodD d) (n : Nat) (hn : 0 < n) (hn2 : n < 1073741824) {z : Int} (hz : z = (n : Int) := by rfl) :
    ∃ (r : Nat) (d2 : List Int), r < n ∧ GoodD d2 ∧ eArgs (gCallO 2 F__law_below []) (aCons (eVar i) (aCons (eC (.int z)) aNil)) sl (W s k d) = some (.ok (iV r), W s k d2) := by
  subst hz
  exact eBelow h0 hk rfl hd hn hn2
end
end G
namespace G
open PySem L2 Cl
theorem asg_nx {e : ME} {g : MG} {sl sl' : Sl} {st st1 st2 : List O} {x : S} (h : e sl st = some (.ok x, st1)) (h2 : g x sl st1 = some (sl', st2)) : sAsg e g sl st = some (.nx, sl', st2) := by simp [h, h2]
theorem expr_nx {e : ME} {sl : Sl} {st st' : List O} {x : S} (h : e sl st = some (.ok x, st')) : sExpr e sl st = some (.nx, sl, st') := by simp [h]
theorem if_t {c : MT} {a b : MS} {sl : Sl} {st st' : List O} (h : c sl st = some (.ok true, st')) : sIf c a b sl st = a sl st' := by simp [h]
theorem if_f {c : MT} {a b : MS} {sl : Sl} {st st' : List O} (h : c sl st = some (.ok false, st')) : sIf c a b sl st = b sl st' := by simp [h]
theorem ret_ok {e : ME} {sl : Sl} {st st' : List O} {x : S} (h : e sl st = some (.ok x, st')) : sRet e sl st = some (.rt x, sl, st') := by simp [h]
theorem runsL_len (ps : List Nat) : (runsL ps).length ≤ ps.length := by
  have : ∀ (ps : List Nat) (fs : List (Nat × Nat)), (ps.foldl runStep fs).length ≤ fs.length + ps.length := by
    intro ps
    induction ps with
    | nil => simp
    | cons t ps ih =>
      intro fs
      have h1 := ih (runStep fs t)
      have h2 := runStep_len fs t
      simp only [List.foldl_cons, List.length_cons]
      omega
  simpa [runsL] using this ps []
theorem pau_len {p : Pl} (h : Pok p) : p.pau.length ≤ 60 := by
  have := nodup_len (n := p.len) (js := p.pau) (h.pa.imp fun z => Nat.ne_of_lt z) h.pl
  have := h.l2
  omega
theorem runs_mem {P : Nat → Prop} : ∀ (ps : List Nat) (fs : List (Nat × Nat)), (∀ t ∈ ps, P t) → (∀ q ∈ fs, P q.1 ∧ P q.2) → ∀ q ∈ ps.foldl runStep fs, P q.1 ∧ P q.2
  | [], fs, _, hf => hf
  | t :: ps, fs, ht, hf => by
    rw [List.foldl_cons]
    refine runs_mem ps _ (fun t h => ht t (List.mem_cons_of_mem _ h)) fun q hq => ?_
    have hp := ht t List.mem_cons_self
    rcases List.eq_nil_or_concat fs with rfl | ⟨L, ab, rfl⟩
    · rw [runStep_nil] at hq
      rw [List.mem_singleton.mp hq]; exact ⟨hp, hp⟩
    · obtain ⟨a, b⟩ := ab
      rw [List.concat_eq_append] at hf hq
      rw [runStep_app] at hq
      split at hq
      · rcases List.mem_append.mp hq with h | h
        · exact hf q (List.mem_append_left _ h)
        · rw [List.mem_singleton.mp h]
          exact ⟨(hf (a, b) (by simp)).1, hp⟩
      · rcases List.mem_append.mp hq with h | h
        · exact hf q (List.mem_append_left _ h)
        · rcases List.mem_cons.mp h with rfl | h
          · exact hf (a, b) (by simp)
          · rw [List.mem_singleton.mp h]; exact ⟨hp, hp⟩
theorem runs_lt {p : Pl} (h : Pok p) : ∀ q ∈ runsL p.pau, q.1 < p.len ∧ q.2 < p.len := runs_mem p.pau [] h.pl (by simp)
def Pl.l3 (p : Pl) : List (List KW) := [[kyw "round", nuw p.len], [kyw "open", nuw p.most], kyw "valves" :: p.nms.map naw]
def Pl.lr (p : Pl) : List (List KW) := if p.rks = List.range p.nms.length then [] else [kyw "rank" :: p.rks.map fun j => naw (p.nms.getD j [])]
def Pl.ls (p : Pl) : List (List KW) := p.sts.map fun s => [kyw "start", naw (p.nms.getD s.2.1 []), nuw s.1, kyw "for", nuw s.2.2]
def Pl.lp (p : Pl) : List (List KW) := (runsL p.pau).map fun q => [kyw "pause", nuw q.1, nuw q.2]
theorem lines_eq (p : Pl) : p.lines = p.l3 ++ p.lr ++ p.ls ++ p.lp := rfl
end G
namespace G
open PySem L2 Cl
theorem args1 {g : List S → M S} {e : ME} {sl : Sl} {st st' : List O} {x : S} (h : e sl st = some (.ok x, st')) : eArgs g (aCons e aNil) sl st = g [x] st' := by simp [h]
theorem args2 {g : List S → M S} {e f : ME} {sl : Sl} {st st1 st2 : List O} {x y : S} (h : e sl st = some (.ok x, st1)) (h2 : f sl st1 = some (.ok y, st2)) : eArgs g (aCons e (aCons f aNil)) sl st = g [x, y] st2 := by simp [h, h2]
theorem args3 {g : List S → M S} {e f e3 : ME} {sl : Sl} {st st1 st2 st3 : List O} {x y z : S} (h : e sl st = some (.ok x, st1)) (h2 : f sl st1 = some (.ok y, st2)) (h3 : e3 sl st2 = some (.ok z, st3)) : eArgs g (aCons e (aCons f (aCons e3 aNil))) sl st = g [x, y, z] st3 := by simp [h, h2, h3]
theorem bm1 {T : String} {g : S → List S → M S} {o e : ME} {sl : Sl} {st st1 st2 : List O} {x y : S} (h : o sl st = some (.ok x, st1)) (hc : chkT T x st1 = some (.ok (), st1)) (h2 : e sl st1 = some (.ok y, st2)) : eBM T g o (aCons e aNil) sl st = g x [y] st2 := by simp [-chkT, h, hc, h2]
theorem var_obj {i n : Nat} {sl : Sl} {st : List O} {l : List S} (h : sl[i]? = some (some (.obj n))) (h2 : st[n]? = some (.lst l)) : eVar i sl st = some (.ok (.obj n), st) := by
  unfold eVar; rw [h]; simp only [rsv, rsvS, h2]
theorem var_val {i : Nat} {sl : Sl} {st : List O} {v : D} (h : sl[i]? = some (some (.val v))) : eVar i sl st = some (.ok (.val v), st) := by
  unfold eVar; rw [h]; rfl
theorem chk_list {n : Nat} {st : List O} {l : List S} (h2 : st[n]? = some (.lst l)) : chkT "list" (.obj n) st = some (.ok (), st) := by
  simp only [chkT, lstOf, h2, if_true]
theorem gApp_eq {n : Nat} {st : List O} {l : List S} {y : S} (h2 : st[n]? = some (.lst l)) (hz : l.length < sizeLine) : gAppend (.obj n) [y] st = some (.ok (.val .non), st.set n (.lst (l ++ [y]))) := by
  simp only [gAppend, h2, hz, if_true]
end G
namespace G
open PySem L2 Cl
abbrev triV (s : T3) : S := .val (triD s)
end G
namespace G
open PySem L2 Cl
theorem lrg_eq {e : ME} {sl : Sl} {st st' : List O} {n : Nat} (h : e sl st = some (.ok (iV n), st')) (hn : n ≤ 1000) : eLRg1 e sl st = some (.ok (.val (.lst ((List.range n).map iD))), st') := by
  unfold eLRg1
  simp only [M.bind, h, gLRg1]
  rw [if_pos ⟨by omega, by omega⟩, rgD_nat]
theorem iargs1 {g : List S → M Its'} {e : ME} {sl : Sl} {st st' : List O} {x : S} (h : e sl st = some (.ok x, st')) : iArgs g (aCons e aNil) sl st = g [x] st' := by simp [h]
theorem gIx_tup {st : List O} {l : List D} {i : Nat} {d : D} (hx : l[i]? = some d) : gIx (.val (.tup l)) (iV i) st = some (.ok (.val d), st) := by
  have e := Cl.atI_nat (show (l.map S.val)[i]? = some (.val d) by rw [List.getElem?_map, hx]; rfl)
  unfold gIx
  simp only [seqOf, e, rsvS]
theorem gIx_lst {st : List O} {l : List D} {i : Nat} {d : D} (hx : l[i]? = some d) : gIx (.val (.lst l)) (iV i) st = some (.ok (.val d), st) := by
  have e := Cl.atI_nat (show (l.map S.val)[i]? = some (.val d) by rw [List.getElem?_map, hx]; rfl)
  unfold gIx
  simp only [seqOf, lstOf, e, rsvS]
end G
namespace G
open PySem L2 Cl
theorem wd_key (s : String) (h : Str.ofString s ∈ keyW) (h2 : (s.toList.map Char.toNat).all isLet = true) (h3 : 1 ≤ (s.toList.map Char.toNat).length) : WdOk (kyw s) :=
  .key ⟨by show Sc (kyw s).2 ∈ keyW; rw [Sc_kyw]; exact h, fun c hc => List.all_eq_true.mp h2 c hc, h3⟩
theorem wd_round : WdOk (kyw "round") := wd_key _ (by simp [keyW]) (by decide) (by decide)
theorem wd_open : WdOk (kyw "open") := wd_key _ (by simp [keyW]) (by decide) (by decide)
theorem wd_valves : WdOk (kyw "valves") := wd_key _ (by simp [keyW]) (by decide) (by decide)
theorem wd_start : WdOk (kyw "start") := wd_key _ (by simp [keyW]) (by decide) (by decide)
theorem wd_for : WdOk (kyw "for") := wd_key _ (by simp [keyW]) (by decide) (by decide)
theorem wd_pause : WdOk (kyw "pause") := wd_key _ (by simp [keyW]) (by decide) (by decide)
theorem wd_rank : WdOk (kyw "rank") := wd_key _ (by simp [keyW]) (by decide) (by decide)
theorem wd_num {n : Nat} (h : n < 100) : WdOk (nuw n) := by
  refine .num ⟨?_, TL.numL_len (by decide) (by omega), fun c hc => ?_, ?_⟩
  · have := TL.numL_ne n
    cases e : TL.numL n with
    | nil => exact absurd e this
    | cons a l => simp
  · have := TL.numL_digits n c hc
    simp only [isDig, Bool.and_eq_true, decide_eq_true_eq]
    exact this
  · rcases Nat.lt_or_ge n 10 with h1 | h1
    · left; rw [TL.numL_lt h1]; rfl
    · right
      intro r e
      rw [TL.numL_step h1, TL.numL_lt (by omega)] at e
      simp only [List.cons_append, List.nil_append, List.cons.injEq] at e
      omega
theorem wd_name {p : Pl} (h : Pok p) {j : Nat} (hj : j < p.nms.length) : WdOk (naw (p.nms.getD j [])) := by
  refine .name (h.nw _ ?_)
  simp [List.getD, hj]
theorem lines_ok {p : Pl} (h : Pok p) : ∀ ws ∈ p.lines, ws ≠ [] ∧ (∀ x ∈ ws, WdOk x) ∧ ws.length ≤ 9 := by
  have h60 := h.l2
  intro ws hw
  rw [lines_eq] at hw
  simp only [List.mem_append] at hw
  rcases hw with ((hw | hw) | hw) | hw
  · simp only [Pl.l3, List.mem_cons, List.not_mem_nil, or_false] at hw
    rcases hw with rfl | rfl | rfl
    · refine ⟨by simp, fun x hx => ?_, by simp⟩
      simp only [List.mem_cons, List.not_mem_nil, or_false] at hx
      rcases hx with rfl | rfl
      · exact wd_round
      · exact wd_num (by omega)
    · refine ⟨by simp, fun x hx => ?_, by simp⟩
      simp only [List.mem_cons, List.not_mem_nil, or_false] at hx
      rcases hx with rfl | rfl
      · exact wd_open
      · exact wd_num (by have := h.m2; omega)
    · refine ⟨by simp, fun x hx => ?_, by simp; exact h.n2⟩
      rcases List.mem_cons.mp hx with rfl | hx
      · exact wd_valves
      · obtain ⟨w, hw, rfl⟩ := List.mem_map.mp hx
        exact .name (h.nw w hw)
  · unfold Pl.lr at hw
    split at hw
    · cases hw
    · rw [List.mem_singleton.mp hw]
      refine ⟨by simp, fun x hx => ?_, by simp; rw [rks_len h]; exact h.n2⟩
      rcases List.mem_cons.mp hx with rfl | hx
      · exact wd_rank
      · obtain ⟨j, hj, rfl⟩ := List.mem_map.mp hx
        exact wd_name h (rks_lt h hj)
  · obtain ⟨s, hs, rfl⟩ := List.mem_map.mp hw
    obtain ⟨h1, h2, h3, h4⟩ := h.st s hs
    refine ⟨by simp, fun x hx => ?_, by simp⟩
    simp only [List.mem_cons, List.not_mem_nil, or_false] at hx
    rcases hx with rfl | rfl | rfl | rfl | rfl
    · exact wd_start
    · exact wd_name h h2
    · exact wd_num (by omega)
    · exact wd_for
    · exact wd_num (by omega)
  · obtain ⟨q, hq, rfl⟩ := List.mem_map.mp hw
    obtain ⟨h1, h2⟩ := runs_lt h q hq
    refine ⟨by simp, fun x hx => ?_, by simp⟩
    simp only [List.mem_cons, List.not_mem_nil, or_false] at hx
    rcases hx with rfl | rfl | rfl
    · exact wd_pause
    · exact wd_num (by omega)
    · exact wd_num (by omega)
theorem lines_len {p : Pl} (h : Pok p) : p.lines.length ≤ 100 := by
  rw [lines_eq]
  have h1 := h.s20
  have h2 := runsL_len p.pau
  have h3 := pau_len h
  simp only [List.length_append, Pl.l3, Pl.lr, Pl.ls, Pl.lp, List.length_cons, List.length_nil, List.length_map]
  split <;> simp <;> omega
theorem joinL_len (s : List Nat) : ∀ l : List (List Nat), (TL.joinL s l).length ≤ (l.map List.length).sum + l.length * s.length
  | [] => by simp [TL.joinL]
  | [x] => by simp [TL.joinL]
  | x :: y :: l => by
    have := joinL_len s (y :: l)
    have e : TL.joinL s (x :: y :: l) = x ++ (s ++ TL.joinL s (y :: l)) := by simp [TL.joinL]
    rw [e]
    simp only [List.length_append, List.map_cons, List.sum_cons, List.length_cons, Nat.add_mul, Nat.one_mul] at this ⊢
    omega
theorem sum_le {l : List (List Nat)} {k : Nat} (h : ∀ x ∈ l, x.length ≤ k) : (l.map List.length).sum ≤ l.length * k := by
  induction l with
  | nil => simp
  | cons a l ih =>
    have h1 := ih fun x hx => h x (List.mem_cons_of_mem _ hx)
    have h2 := h a List.mem_cons_self
    simp only [List.map_cons, List.sum_cons, List.length_cons, Nat.add_mul, Nat.one_mul]
    omega
theorem line_len {ws : List KW} (h : ∀ x ∈ ws, WdOk x) (hl : ws.length ≤ 9) : (lineOf ws).length ≤ 100 := by
  unfold lineOf
  have h1 := joinL_len [32] (ws.map (·.2))
  have h2 := sum_le (l := ws.map (·.2)) (k := 8) fun x hx => by
    obtain ⟨y, hy, rfl⟩ := List.mem_map.mp hx
    exact (wd_ok (h y hy)).2.2
  simp only [List.length_append, List.length_map, List.length_singleton] at h1 h2 ⊢
  omega
theorem join_eq (sep : List Nat) (ls : List (List Nat)) (st : List O) (hz : (ls.map List.length).sum + ls.length * sep.length ≤ 16777216) : gJoin (.val (.str (Sc sep))) [.val (.lst (ls.map strL))] st = some (.ok (.val (strL (TL.joinL sep ls))), st) := by
  have e1 : strsD (ls.map strL) = some (ls.map Sc) := by
    clear hz
    induction ls with
    | nil => rfl
    | cons a l ih => rw [List.map_cons, strL, strsD, ih]; rfl
  have e2 : Txt.join (Sc sep) (ls.map Sc) = Sc (TL.joinL sep ls) := SX.join_S sep ls
  have e3 : (ls.map Sc).map (·.length) = ls.map List.length := by simp [Function.comp_def]
  have dd : datas ((ls.map strL).map S.val) = some (ls.map strL) := datas_map _
  unfold gJoin
  simp only [seqOf, lstOf, Option.bind_some, dd, e1]
  rw [e3, if_pos (by rw [List.length_map, Sc_len]; exact hz), e2]
  rfl
theorem gAdd_str (a b : List Nat) (st : List O) (h : a.length + b.length ≤ sizeLine) : gAdd (.val (.str (Sc a))) (.val (.str (Sc b))) st = some (.ok (.val (.str (Sc (a ++ b)))), st) := by
  have e : Sc a ++ Sc b = Sc (a ++ b) := SX.S_cat a b
  simp [gAdd, h, e]
theorem lit_32 : Str.ofString " " = Sc [32] := by rw [Sc_of]; rfl
end G
namespace G
open PySem L2 Cl
theorem parser_init (toks : D) : F_Parser_init [.obj 0, .val toks] [.ins "Parser" []] = some (.ok (.val .non), [.ins "Parser" [("tokens", .val toks), ("at", .val (.int 0)), ("faults", .obj 1), ("names", .obj 2), ("starts", .obj 3), ("pauses", .obj 4), ("ranks", .val .non)], .lst [], .lst [], .lst [], .lst []]) := by
  have z0 : (0 : Nat) ≤ sizeLine := Nat.zero_le _
  simp [F_Parser_init, b_Parser_init, gLstO, z0]
theorem Sc_inj {a b : List Nat} (h : Sc a = Sc b) : a = b := by simpa using h
end G
namespace G
open PySem L2 Cl
def Pl.parsed (p : Pl) : D := planD p.len p.most (p.nms.map Sc) (p.sts.map triD) ((List.range p.len).map fun i => .bl (decide (i ∈ p.pau))) (p.rks.map iD)
end G
namespace G
open PySem L2 Cl
theorem sorted_ext : ∀ {l m : List Nat}, l.Pairwise (· < ·) → m.Pairwise (· < ·) → (∀ x, x ∈ l ↔ x ∈ m) → l = m
  | [], [], _, _, _ => rfl
  | [], b :: m, _, _, h => absurd ((h b).mpr List.mem_cons_self) (by simp)
  | a :: l, [], _, _, h => absurd ((h a).mp List.mem_cons_self) (by simp)
  | a :: l, b :: m, hl, hm, h => by
    have h1 := List.pairwise_cons.mp hl
    have h2 := List.pairwise_cons.mp hm
    have hab : a = b := by
      rcases List.mem_cons.mp ((h a).mp List.mem_cons_self) with e | e
      · exact e
      · rcases List.mem_cons.mp ((h b).mpr List.mem_cons_self) with e2 | e2
        · exact e2.symm
        · have := h2.1 a e; have := h1.1 b e2; omega
    subst hab
    congr 1
    refine sorted_ext h1.2 h2.2 fun x => ?_
    constructor
    · intro hx
      rcases List.mem_cons.mp ((h x).mp (List.mem_cons_of_mem _ hx)) with e | e
      · subst e; exact absurd (h1.1 _ hx) (by omega)
      · exact e
    · intro hx
      rcases List.mem_cons.mp ((h x).mpr (List.mem_cons_of_mem _ hx)) with e | e
      · subst e; exact absurd (h2.1 _ hx) (by omega)
      · exact e
theorem filter_range {len : Nat} {pau : List Nat} (h1 : pau.Pairwise (· < ·)) (h2 : ∀ t ∈ pau, t < len) : (List.range len).filter (fun i => decide (i ∈ pau)) = pau := by
  refine sorted_ext (List.Pairwise.filter _ List.pairwise_lt_range) h1 fun x => ?_
  rw [List.mem_filter, List.mem_range]
  simp only [decide_eq_true_eq]
  exact ⟨fun h => h.2, fun h => ⟨h2 x h, h⟩⟩
theorem runsL_snoc (ps : List Nat) (t : Nat) : runsL (ps ++ [t]) = runStep (runsL ps) t := by
  unfold runsL; rw [List.foldl_append]; rfl
theorem runs_last (ps : List Nat) (t : Nat) : ∃ L a, runsL (ps ++ [t]) = L ++ [(a, t)] := by
  rw [runsL_snoc]
  rcases List.eq_nil_or_concat (runsL ps) with h | ⟨L, ab, h⟩
  · rw [h]; exact ⟨[], t, rfl⟩
  · obtain ⟨a, b⟩ := ab
    rw [h, List.concat_eq_append, runStep_app]
    split
    · exact ⟨L, a, rfl⟩
    · exact ⟨L ++ [(a, b)], t, by simp⟩
theorem filt_succ (f : Nat → Bool) (i : Nat) : (List.range (i + 1)).filter f = (List.range i).filter f ++ (if f i = true then [i] else []) := by
  rw [List.range_succ, List.filter_append]
  congr 1
  by_cases h : f i = true <;> simp [h]
/-- one turn of runs_of -/
theorem runs_of_turn {f : Nat → Bool} {len i : Nat} {st : List O} {fs : List (Nat × Nat)} {x2 x3 : Option S} (hi : i < len) (hl : len ≤ 60) (hfs : fs = runsL ((List.range i).filter f)) (h0 : fs.length ≤ 60) :
    l1_runs_of [some (.val (.lst ((List.range len).map fun i => .bl (f i)))), some (.obj 0), some (iV i), some (.val (.bl (f i)))] [.lst (fs.map prV)] =
      some (.nx, [some (.val (.lst ((List.range len).map fun i => .bl (f i)))), some (.obj 0), some (iV i), some (.val (.bl (f i)))], [.lst ((runsL ((List.range (i + 1)).filter f)).map prV)]) := by
  rw [filt_succ]
  have z : fs.length < sizeLine := sizes (by omega)
  by_cases hf : f i = true
  · rw [if_pos hf, runsL_snoc, ← hfs]
    by_cases hp : 0 < i ∧ f (i - 1) = true
    · obtain ⟨hp0, hp1⟩ := hp
      obtain ⟨j, rfl⟩ : ∃ j, i = j + 1 := ⟨i - 1, by omega⟩
      simp only [Nat.add_sub_cancel] at hp1
      obtain ⟨L, a, e⟩ := runs_last ((List.range j).filter f) j
      rw [filt_succ, if_pos hp1, e] at hfs
      rw [hfs, runStep_app, if_pos rfl]
      have e0 : (0 : Int) < (j : Int) + 1 := by omega
      have ej : atI ((List.range len).map (S.val ∘ fun i => D.bl (f i))) (j : Int) = some (.val (.bl (f j))) := by
        refine Cl.atI_nat ?_
        rw [List.getElem?_map, List.getElem?_range (by omega)]; rfl
      have ix : ixN (L.length + 1) (-1) = some L.length := by unfold ixN; simp; omega
      simp [l1_runs_of, hf, gIx, e0, ej, hp1, atIm1, prV, pr, atI0, Cl.gTup, gSetL, ix]
    · have hn : ∀ L a b, fs = L ++ [(a, b)] → b + 1 ≠ i := fun L a b e hb => by
        subst hb
        rw [filt_succ] at hfs
        have hf2 : ¬ f b = true := fun z => hp ⟨by omega, by simpa using z⟩
        rw [if_neg hf2, List.append_nil] at hfs
        rcases List.eq_nil_or_concat ((List.range b).filter f) with h | ⟨L', t, h⟩
        · rw [hfs, h] at e; simp [runsL] at e
        · rw [List.concat_eq_append] at h
          obtain ⟨L2, a2, e2⟩ := runs_last L' t
          rw [hfs, h, e2] at e
          have := (List.append_inj' e rfl).2
          simp only [List.cons.injEq, Prod.mk.injEq, and_true] at this
          have ht : t ∈ (List.range b).filter f := by rw [h]; simp
          have := List.mem_range.mp (List.mem_filter.mp ht).1
          omega
      have e2 : runStep fs i = fs ++ [(i, i)] := by
        rcases List.eq_nil_or_concat fs with h | ⟨L, ab, h⟩
        · rw [h]; rfl
        · obtain ⟨a, b⟩ := ab
          rw [List.concat_eq_append] at h
          rw [h, runStep_app, if_neg (hn L a b h)]
          simp
      rw [e2]
      by_cases h0' : 0 < i
      · have hp1 : f (i - 1) = false := by
          cases e : f (i - 1) with
          | false => rfl
          | true => exact absurd ⟨h0', e⟩ hp
        obtain ⟨j, rfl⟩ : ∃ j, i = j + 1 := ⟨i - 1, by omega⟩
        simp only [Nat.add_sub_cancel] at hp1
        have e0 : (0 : Int) < (j : Int) + 1 := by omega
        have ej : atI ((List.range len).map (S.val ∘ fun i => D.bl (f i))) (j : Int) = some (.val (.bl (f j))) := by
          refine Cl.atI_nat ?_
          rw [List.getElem?_map, List.getElem?_range (by omega)]; rfl
        simp [l1_runs_of, hf, gIx, e0, ej, hp1, prV, pr, Cl.gTup, gAppend, z]
      · have : i = 0 := by omega
        subst this
        simp [l1_runs_of, hf, prV, pr, Cl.gTup, gAppend, z]
  · rw [if_neg hf, List.append_nil, ← hfs]
    simp [l1_runs_of, hf]
theorem enum_map (f : Nat → Bool) : ∀ (n a : Nat), enumD a ((List.range' a n).map fun i => .bl (f i)) = (List.range' a n).map fun i : Nat => D.tup [.int i, .bl (f i)]
  | 0, _ => rfl
  | n + 1, a => by
    rw [List.range'_succ, List.map_cons, enumD, enum_map f n (a + 1), List.map_cons]
theorem runs_of_eq (f : Nat → Bool) (len : Nat) (hl : len ≤ 60) : F_runs_of [.lst ((List.range len).map fun i => .bl (f i))] = some (.ok (.lst ((runsL ((List.range len).filter f)).map fun q => pr q.1 q.2))) := by
  have key : ∀ (n a : Nat) (x2 x3 : Option S), a + n = len → ∃ x2' x3', forL (fun _ => True) (tgTup 2 (tgCons (tgName 2) (tgCons (tgName 3) tgNil))) l1_runs_of ((List.range' a n).map fun i : Nat => S.val (.tup [.int i, .bl (f i)])) [some (.val (.lst ((List.range len).map fun i => .bl (f i)))), some (.obj 0), x2, x3] [.lst ((runsL ((List.range a).filter f)).map prV)] =
      some (.nx, [some (.val (.lst ((List.range len).map fun i => .bl (f i)))), some (.obj 0), x2', x3'], [.lst ((runsL ((List.range len).filter f)).map prV)]) := by
    intro n
    induction n with
    | zero => intro a x2 x3 h; refine ⟨x2, x3, ?_⟩; rw [show a = len by omega]; exact for_nil trivial
    | succ n ih =>
      intro a x2 x3 h
      obtain ⟨x2', x3', e⟩ := ih (a + 1) (some (iV a)) (some (.val (.bl (f a)))) (by omega)
      refine ⟨x2', x3', ?_⟩
      rw [List.range'_succ, List.map_cons]
      have hlen : (runsL ((List.range a).filter f)).length ≤ 60 := by
        have h1 := runsL_len ((List.range a).filter f)
        have h2 := List.length_filter_le f (List.range a)
        rw [List.length_range] at h2
        omega
      rw [for_cons trivial (sl1 := [some (.val (.lst ((List.range len).map fun i => .bl (f i)))), some (.obj 0), some (iV a), some (.val (.bl (f a)))]) (st1 := [.lst ((runsL ((List.range a).filter f)).map prV)]) (by simp) (runs_of_turn (x2 := none) (x3 := none) (st := []) (by omega) hl rfl hlen)]
      exact e
  obtain ⟨x2, x3, e⟩ := key len 0 none none (by omega)
  have en := enum_map f len 0
  rw [← List.range_eq_range'] at en e
  have e' : forL (fun _ => True) (tgTup 2 (tgCons (tgName 2) (tgCons (tgName 3) tgNil))) l1_runs_of ((enumD 0 ((List.range len).map fun i => .bl (f i))).map .val) [some (.val (.lst ((List.range len).map fun i => .bl (f i)))), some (.obj 0), none, none] [.lst []] = some (.nx, [some (.val (.lst ((List.range len).map fun i => .bl (f i)))), some (.obj 0), x2, x3], [.lst ((runsL ((List.range len).filter f)).map prV)]) := by
    rw [en, List.map_map]; exact e
  have dd : ∀ (n : Nat) (st : List O) (l : List (Nat × Nat)), deepL n st (l.map prV) = some (l.map fun q => pr q.1 q.2) := fun n st l => deepL_vals _ _ _ _
  simp [F_runs_of, b_runs_of, gLstO, gEnum, e', deepD, dd]
theorem runs_of_plan {p : Pl} (h : Pok p) : F_runs_of [.lst ((List.range p.len).map fun i => .bl (decide (i ∈ p.pau)))] = some (.ok (.lst ((runsL p.pau).map fun q => pr q.1 q.2))) := by
  have := runs_of_eq (fun i => decide (i ∈ p.pau)) p.len h.l2
  rwa [filter_range h.pa h.pl] at this
end G
namespace G
open PySem L2 Cl
theorem gAdd_L {a b : List Nat} (st : List O) (h : a.length + b.length ≤ 1000000) : gAdd (.val (strL a)) (.val (strL b)) st = some (.ok (.val (strL (a ++ b))), st) := gAdd_str a b st (Nat.le_of_lt (sizes (by omega)))
def cds (s : String) : List Nat := s.toList.map Char.toNat
theorem lit_L (s : String) : D.str (Str.ofString s) = strL (cds s) := by rw [strL, Sc_of]; rfl
theorem numL2 {n : Nat} (h : n < 100) : (TL.numL n).length ≤ 2 := TL.numL_len (by decide) (by omega)
def fSl (p : Pl) (x3 x4 x5 x6 x7 : Option S) : Sl := [some (.val p.parsed), some (.val (.tup (p.nms.map strL))), some (.obj 0), x3, x4, x5, x6, x7]
abbrev lnV (ws : List KW) : S := .val (strL (lineOf ws))
theorem parsed_names (p : Pl) : (p.nms.map Sc).map D.str = p.nms.map strL := by rw [List.map_map]; rfl
theorem name_len {p : Pl} (h : Pok p) {j : Nat} (hj : j < p.nms.length) : (p.nms.getD j []).length ≤ 8 := (wd_ok (wd_name h hj)).2.2
theorem cat_ok {a b : ME} {sl : Sl} {st : List O} {x y : List Nat} (h1 : a sl st = some (.ok (.val (strL x)), st)) (h2 : b sl st = some (.ok (.val (strL y)), st)) (h : x.length + y.length ≤ 1000000) : eBin gAdd a b sl st = some (.ok (.val (strL (x ++ y))), st) := by
  rw [bin_ok h1 h2]; exact gAdd_L st h
theorem lit_ok (s : String) (sl : Sl) (st : List O) : eC (.str (Str.ofString s)) sl st = some (.ok (.val (strL (cds s))), st) := by rw [lit_L]; rfl
theorem str_ok {e : ME} {sl : Sl} {st : List O} {n : Nat} (h : e sl st = some (.ok (iV n), st)) (hn : n < 1000) : eArgs (g1 gStr) (aCons e aNil) sl st = some (.ok (.val (strL (TL.numL n))), st) := by
  rw [args1 h]; exact gStr_nat n (by omega) st
theorem fmt_starts {p : Pl} (h : Pok p) : ∀ (ss : List T3) (ls : List (List KW)) (x3 x4 x5 : Option S), (∀ s ∈ ss, s ∈ p.sts) → ls.length + ss.length ≤ 1000 →
    ∃ x3' x4' x5', forL always (tgTup 3 (tgCons (tgName 4) (tgCons (tgName 3) (tgCons (tgName 5) tgNil)))) l2_format_parsed (ss.map triV) (fSl p x3 x4 x5 none none) [.lst (ls.map lnV)] =
      some (.nx, fSl p x3' x4' x5' none none, [.lst ((ls ++ ss.map fun s => [kyw "start", naw (p.nms.getD s.2.1 []), nuw s.1, kyw "for", nuw s.2.2]).map lnV)])
  | [], ls, x3, x4, x5, _, _ => ⟨x3, x4, x5, by rw [List.map_nil, for_nil trivial]; simp⟩
  | s :: ss, ls, x3, x4, x5, hs, hl => by
    simp only [List.length_cons] at hl
    obtain ⟨h1, h2, h3, h4⟩ := h.st s (hs s List.mem_cons_self)
    have h60 := h.l2
    obtain ⟨y3, y4, y5, ih⟩ := fmt_starts h ss (ls ++ [[kyw "start", naw (p.nms.getD s.2.1 []), nuw s.1, kyw "for", nuw s.2.2]]) (some (iV s.2.1)) (some (iV s.1)) (some (iV s.2.2)) (fun s' h' => hs s' (List.mem_cons_of_mem _ h')) (by rw [List.length_append, List.length_singleton]; omega)
    refine ⟨y3, y4, y5, ?_⟩
    rw [List.map_cons, for_cons trivial (sl1 := fSl p (some (iV s.2.1)) (some (iV s.1)) (some (iV s.2.2)) none none) (st1 := [.lst (ls.map lnV)]) (sl2 := fSl p (some (iV s.2.1)) (some (iV s.1)) (some (iV s.2.2)) none none) (st2 := [.lst ((ls ++ [[kyw "start", naw (p.nms.getD s.2.1 []), nuw s.1, kyw "for", nuw s.2.2]]).map lnV)]) (by simp [triV, triD, tri, fSl]), ih]
    · simp
    · generalize hst : ([.lst (ls.map lnV)] : List O) = st
      have n1 := numL2 (show s.1 < 100 by omega)
      have n2 := numL2 (show s.2.2 < 100 by omega)
      have n3 := name_len h h2
      have v1 : eBin gIx (eVar 1) (eVar 3) (fSl p (some (iV s.2.1)) (some (iV s.1)) (some (iV s.2.2)) none none) st = some (.ok (.val (strL (p.nms.getD s.2.1 []))), st) := by
        rw [bin_ok (var_val (i := 1) rfl) (var_val (i := 3) rfl)]; exact names_at h h2 st
      have v4 := str_ok (var_val (i := 4) (sl := fSl p (some (iV s.2.1)) (some (iV s.1)) (some (iV s.2.2)) none none) (st := st) rfl) (show s.1 < 1000 by omega)
      have v5 := str_ok (var_val (i := 5) (sl := fSl p (some (iV s.2.1)) (some (iV s.1)) (some (iV s.2.2)) none none) (st := st) rfl) (show s.2.2 < 1000 by omega)
      have c1 := cat_ok (lit_ok "start " _ st) v1 (by have : (cds "start ").length = 6 := by decide
                                                      omega)
      have c2 := cat_ok c1 (lit_ok " " _ st) (by have : (cds "start ").length = 6 := by decide
                                                 have : (cds " ").length = 1 := by decide
                                                 simp only [List.length_append]; omega)
      have c3 := cat_ok c2 v4 (by have : (cds "start ").length = 6 := by decide
                                  have : (cds " ").length = 1 := by decide
                                  simp only [List.length_append]; omega)
      have c4 := cat_ok c3 (lit_ok " for " _ st) (by have : (cds "start ").length = 6 := by decide
                                                     have : (cds " ").length = 1 := by decide
                                                     have : (cds " for ").length = 5 := by decide
                                                     simp only [List.length_append]; omega)
      have c5 := cat_ok c4 v5 (by have : (cds "start ").length = 6 := by decide
                                  have : (cds " ").length = 1 := by decide
                                  have : (cds " for ").length = 5 := by decide
                                  simp only [List.length_append]; omega)
      have c6 := cat_ok c5 (lit_ok ";" _ st) (by have : (cds "start ").length = 6 := by decide
                                                 have : (cds " ").length = 1 := by decide
                                                 have : (cds " for ").length = 5 := by decide
                                                 have : (cds ";").length = 1 := by decide
                                                 simp only [List.length_append]; omega)
      have e : cds "start " ++ p.nms.getD s.2.1 [] ++ cds " " ++ TL.numL s.1 ++ cds " for " ++ TL.numL s.2.2 ++ cds ";" = lineOf [kyw "start", naw (p.nms.getD s.2.1 []), nuw s.1, kyw "for", nuw s.2.2] := by
        simp [lineOf, TL.joinL, kyw, naw, nuw, cds]
      rw [e] at c6
      have g2 : st[0]? = some (.lst (ls.map lnV)) := by rw [← hst]; rfl
      unfold l2_format_parsed
      refine expr_nx (x := .val .non) ?_
      rw [bm1 (var_obj (i := 2) rfl g2) (chk_list g2) c6, gApp_eq g2 (by rw [List.length_map]; exact sizes (by omega)), ← hst]
      simp
end G
namespace G
open PySem L2 Cl
theorem fmt_pauses {p : Pl} (h : Pok p) (x3 x4 x5 : Option S) : ∀ (qs : List (Nat × Nat)) (ls : List (List KW)) (x6 x7 : Option S), (∀ q ∈ qs, q ∈ runsL p.pau) → ls.length + qs.length ≤ 1000 →
    ∃ x6' x7', forL always (tgTup 2 (tgCons (tgName 6) (tgCons (tgName 7) tgNil))) l1_format_parsed (qs.map prV) (fSl p x3 x4 x5 x6 x7) [.lst (ls.map lnV)] =
      some (.nx, fSl p x3 x4 x5 x6' x7', [.lst ((ls ++ qs.map fun q => [kyw "pause", nuw q.1, nuw q.2]).map lnV)])
  | [], ls, x6, x7, _, _ => ⟨x6, x7, by rw [List.map_nil, for_nil trivial]; simp⟩
  | q :: qs, ls, x6, x7, hs, hl => by
    simp only [List.length_cons] at hl
    obtain ⟨h1, h2⟩ := runs_lt h q (hs q List.mem_cons_self)
    have h60 := h.l2
    obtain ⟨y6, y7, ih⟩ := fmt_pauses h x3 x4 x5 qs (ls ++ [[kyw "pause", nuw q.1, nuw q.2]]) (some (iV q.1)) (some (iV q.2)) (fun s' h' => hs s' (List.mem_cons_of_mem _ h')) (by rw [List.length_append, List.length_singleton]; omega)
    refine ⟨y6, y7, ?_⟩
    rw [List.map_cons, for_cons trivial (sl1 := fSl p x3 x4 x5 (some (iV q.1)) (some (iV q.2))) (st1 := [.lst (ls.map lnV)]) (sl2 := fSl p x3 x4 x5 (some (iV q.1)) (some (iV q.2))) (st2 := [.lst ((ls ++ [[kyw "pause", nuw q.1, nuw q.2]]).map lnV)]) (by simp [prV, pr, fSl]), ih]
    · simp
    · generalize hst : ([.lst (ls.map lnV)] : List O) = st
      have n1 := numL2 (show q.1 < 100 by omega)
      have n2 := numL2 (show q.2 < 100 by omega)
      have v4 := str_ok (var_val (i := 6) (sl := fSl p x3 x4 x5 (some (iV q.1)) (some (iV q.2))) (st := st) rfl) (show q.1 < 1000 by omega)
      have v5 := str_ok (var_val (i := 7) (sl := fSl p x3 x4 x5 (some (iV q.1)) (some (iV q.2))) (st := st) rfl) (show q.2 < 1000 by omega)
      have k1 : (cds "pause ").length = 6 := by decide
      have k2 : (cds " ").length = 1 := by decide
      have k3 : (cds ";").length = 1 := by decide
      have c1 := cat_ok (lit_ok "pause " _ st) v4 (by omega)
      have c2 := cat_ok c1 (lit_ok " " _ st) (by simp only [List.length_append]; omega)
      have c3 := cat_ok c2 v5 (by simp only [List.length_append]; omega)
      have c6 := cat_ok c3 (lit_ok ";" _ st) (by simp only [List.length_append]; omega)
      have e : cds "pause " ++ TL.numL q.1 ++ cds " " ++ TL.numL q.2 ++ cds ";" = lineOf [kyw "pause", nuw q.1, nuw q.2] := by
        simp [lineOf, TL.joinL, kyw, nuw, cds]
      rw [e] at c6
      have g2 : st[0]? = some (.lst (ls.map lnV)) := by rw [← hst]; rfl
      unfold l1_format_parsed
      refine expr_nx (x := .val .non) ?_
      rw [bm1 (var_obj (i := 2) rfl g2) (chk_list g2) c6, gApp_eq g2 (by rw [List.length_map]; exact sizes (by omega)), ← hst]
      simp
theorem joinL_cons (S w : List Nat) {ws : List (List Nat)} (h : ws ≠ []) : TL.joinL S (w :: ws) = w ++ (S ++ TL.joinL S ws) := by
  cases ws with
  | nil => exact absurd rfl h
  | cons a l => simp [TL.joinL]
/-- a field of the parsed plan -/
theorem fld_ok {e : ME} {sl : Sl} {st : List O} {p : Pl} {f : Str} {v : D} (h : e sl st = some (.ok (.val p.parsed), st)) (hf : gFld ["Plan"] f (.val p.parsed) st = some (.ok (.val v), st)) : eFld ["Plan"] f e sl st = some (.ok (.val v), st) := by
  unfold eFld
  simp only [M.bind, h]
  exact hf
theorem fl_names (p : Pl) (st : List O) : gFld ["Plan"] "names" (.val p.parsed) st = some (.ok (.val (.tup (p.nms.map strL))), st) := by simp [Pl.parsed, planD, ← parsed_names]
theorem fl_length (p : Pl) (st : List O) : gFld ["Plan"] "length" (.val p.parsed) st = some (.ok (iV p.len), st) := by simp [Pl.parsed, planD]
theorem fl_most (p : Pl) (st : List O) : gFld ["Plan"] "most" (.val p.parsed) st = some (.ok (iV p.most), st) := by simp [Pl.parsed, planD]
theorem fl_starts (p : Pl) (st : List O) : gFld ["Plan"] "starts" (.val p.parsed) st = some (.ok (.val (.lst (p.sts.map triD))), st) := by simp [Pl.parsed, planD]
theorem fl_ranks (p : Pl) (st : List O) : gFld ["Plan"] "ranks" (.val p.parsed) st = some (.ok (.val (.lst (p.rks.map iD))), st) := by simp [Pl.parsed, planD]
theorem fl_paused (p : Pl) (st : List O) : gFld ["Plan"] "paused" (.val p.parsed) st = some (.ok (.val (.lst ((List.range p.len).map fun i => .bl (decide (i ∈ p.pau))))), st) := by simp [Pl.parsed, planD]
theorem join_tup {sl : Sl} {st : List O} {e : ME} {ws : List (List Nat)} (h : e sl st = some (.ok (.val (.tup (ws.map strL))), st)) (hz : (ws.map List.length).sum + ws.length * 1 ≤ 16777216) : eBM "str" gJoin (eC (.str " ")) (aCons e aNil) sl st = some (.ok (.val (strL (TL.joinL [32] ws))), st) := by
  rw [bm1 (x := .val (.str " ")) (st1 := st) rfl (by simp) h]
  have e1 : strsD (ws.map strL) = some (ws.map Sc) := by
    clear hz h
    induction ws with
    | nil => rfl
    | cons a l ih => rw [List.map_cons, strL, strsD, ih]; rfl
  have e2 : Txt.join (Sc [32]) (ws.map Sc) = Sc (TL.joinL [32] ws) := SX.join_S [32] ws
  have e3 : (ws.map Sc).map (·.length) = ws.map List.length := by simp [Function.comp_def]
  have dd : datas ((ws.map strL).map S.val) = some (ws.map strL) := datas_map _
  rw [lit_32]
  unfold gJoin
  simp only [seqOf, Option.bind_some, dd, e1]
  rw [e3, if_pos (by rw [List.length_map, Sc_len]; exact hz), e2]
  rfl
theorem join_lst {sl : Sl} {st : List O} {e : ME} {ws : List (List Nat)} (h : e sl st = some (.ok (.val (.lst (ws.map strL))), st)) (hz : (ws.map List.length).sum + ws.length * 1 ≤ 16777216) : eBM "str" gJoin (eC (.str " ")) (aCons e aNil) sl st = some (.ok (.val (strL (TL.joinL [32] ws))), st) := by
  rw [bm1 (x := .val (.str " ")) (st1 := st) rfl (by simp) h, lit_32]
  exact join_eq [32] ws st hz
theorem fmt_2 {p : Pl} (h : Pok p) : eArgs gLstO (aCons (eBin gAdd (eBin gAdd (eC (.str "round ")) (eArgs (g1 gStr) (aCons (eFld ["Plan"] "length" (eVar 0)) aNil))) (eC (.str ";"))) (aCons (eBin gAdd (eBin gAdd (eC (.str "open ")) (eArgs (g1 gStr) (aCons (eFld ["Plan"] "most" (eVar 0)) aNil))) (eC (.str ";"))) (aCons (eBin gAdd (eBin gAdd (eC (.str "valves ")) (eBM "str" gJoin (eC (.str " ")) (aCons (eVar 1) aNil))) (eC (.str ";"))) aNil)))
    [some (.val p.parsed), some (.val (.tup (p.nms.map strL))), none, none, none, none, none, none] [] = some (.ok (.obj 0), [.lst (p.l3.map lnV)]) := by
  generalize hsl : ([some (.val p.parsed), some (.val (.tup (p.nms.map strL))), none, none, none, none, none, none] : Sl) = sl
  have v0 := var_val (i := 0) (sl := sl) (st := []) (v := p.parsed) (by rw [← hsl]; rfl)
  have v1 := var_val (i := 1) (sl := sl) (st := []) (v := .tup (p.nms.map strL)) (by rw [← hsl]; rfl)
  have k1 : (cds "round ").length = 6 := by decide
  have k2 : (cds "open ").length = 5 := by decide
  have k3 : (cds ";").length = 1 := by decide
  have k4 : (cds "valves ").length = 7 := by decide
  have n1 := numL2 (show p.len < 100 by have := h.l2; omega)
  have n2 := numL2 (show p.most < 100 by have := h.m2; omega)
  have h8 : (p.nms.map List.length).sum ≤ p.nms.length * 8 := sum_le fun x hx => (wd_ok (WdOk.name (h.nw x hx))).2.2
  have h9 := h.n2
  have jl := joinL_len [32] p.nms
  simp only [List.length_singleton] at jl
  have a1 := cat_ok (cat_ok (lit_ok "round " sl []) (str_ok (fld_ok v0 (fl_length p [])) (by have := h.l2; omega)) (by omega)) (lit_ok ";" sl []) (by simp only [List.length_append]; omega)
  have a2 := cat_ok (cat_ok (lit_ok "open " sl []) (str_ok (fld_ok v0 (fl_most p [])) (by have := h.m2; omega)) (by omega)) (lit_ok ";" sl []) (by simp only [List.length_append]; omega)
  have a3 := cat_ok (cat_ok (lit_ok "valves " sl []) (join_tup v1 (by omega)) (by omega)) (lit_ok ";" sl []) (by simp only [List.length_append]; omega)
  rw [args3 a1 a2 a3]
  have e1 : cds "round " ++ TL.numL p.len ++ cds ";" = lineOf [kyw "round", nuw p.len] := by simp [lineOf, TL.joinL, kyw, nuw, cds]
  have e2 : cds "open " ++ TL.numL p.most ++ cds ";" = lineOf [kyw "open", nuw p.most] := by simp [lineOf, TL.joinL, kyw, nuw, cds]
  have e3 : cds "valves " ++ TL.joinL [32] p.nms ++ cds ";" = lineOf (kyw "valves" :: p.nms.map naw) := by
    have : (p.nms.map naw).map (·.2) = p.nms := by rw [List.map_map]; simp [naw, Function.comp_def]
    unfold lineOf
    rw [List.map_cons, this, joinL_cons _ _ h.n1]
    simp [kyw, cds]
  rw [e1, e2, e3]
  simp [gLstO, Pl.l3, lnV]
theorem fmt_3 {p : Pl} (h : Pok p) : sIf (tBin gNe (eFld ["Plan"] "ranks" (eVar 0)) (eLRg1 (eArgs (g1 gLen) (aCons (eVar 1) aNil)))) (sExpr (eBM "list" gAppend (eVar 2) (aCons (eBin gAdd (eBin gAdd (eC (.str "rank ")) (eBM "str" gJoin (eC (.str " ")) (aCons (eLc [3] (iOf (eFld ["Plan"] "ranks" (eVar 0))) (tgName 3) tTrue e1_format_parsed) aNil))) (eC (.str ";"))) aNil))) sNext (fSl p none none none none none) [.lst (p.l3.map lnV)] =
    some (.nx, fSl p none none none none none, [.lst ((p.l3 ++ p.lr).map lnV)]) := by
  generalize hst : ([.lst (p.l3.map lnV)] : List O) = st
  have g2 : st[0]? = some (.lst (p.l3.map lnV)) := by rw [← hst]; rfl
  have v0 := var_val (i := 0) (sl := fSl p none none none none none) (st := st) (v := p.parsed) rfl
  have v1 := var_val (i := 1) (sl := fSl p none none none none none) (st := st) (v := .tup (p.nms.map strL)) rfl
  have h8 := h.n2
  have hn := gEqB_eq (x := .val (.lst (p.rks.map iD))) (y := .val (.lst ((List.range p.nms.length).map iD))) (st := st) true rfl rfl (okP_ints _ _ _) (okP_ints _ _ _)
  rw [eqD_ints] at hn
  have hl : eArgs (g1 gLen) (aCons (eVar 1) aNil) (fSl p none none none none none) st = some (.ok (iV p.nms.length), st) := by
    rw [args1 v1]; simp [gLen]
  have ht : tBin gNe (eFld ["Plan"] "ranks" (eVar 0)) (eLRg1 (eArgs (g1 gLen) (aCons (eVar 1) aNil))) (fSl p none none none none none) st = some (.ok (!decide (p.rks = List.range p.nms.length)), st) := by
    have e2 : eBin gNe (eFld ["Plan"] "ranks" (eVar 0)) (eLRg1 (eArgs (g1 gLen) (aCons (eVar 1) aNil))) (fSl p none none none none none) st = some (.ok (.val (.bl (!decide (p.rks = List.range p.nms.length)))), st) := by
      rw [bin_ok (fld_ok v0 (fl_ranks p st)) (lrg_eq hl (by omega))]
      exact hn.trans rfl
    unfold tBin
    simp only [M.bind, e2, M.pure]
  by_cases hr : p.rks = List.range p.nms.length
  · simp only [hr, decide_true, Bool.not_true] at ht
    rw [if_f ht, ← hst]
    simp [Pl.lr, hr]
  · simp only [hr, decide_false, Bool.not_false] at ht
    rw [if_t ht]
    have hlc := eLc_all (vs := [3]) (fi := iOf (eFld ["Plan"] "ranks" (eVar 0))) (g := tgName 3) (e := e1_format_parsed) (sl := fSl p none none none none none) (st := st) (C := always) (fun j : Nat => S.val (iD j)) (fun j => strL (p.nms.getD j [])) p.rks (by
        unfold iOf
        simp only [M.bind, fld_ok v0 (fl_ranks p st), gIter]
        simp [Function.comp_def]) trivial (Nat.le_of_lt (sizes (by rw [rks_len h]; omega)))
        (fun j hj => ⟨_, rfl, by
          unfold e1_format_parsed
          rw [bin_ok (var_val (i := 1) rfl) (var_val (i := 3) rfl)]
          exact names_at h (rks_lt h hj) st⟩)
    have hlc' : eLc [3] (iOf (eFld ["Plan"] "ranks" (eVar 0))) (tgName 3) tTrue e1_format_parsed (fSl p none none none none none) st = some (.ok (.val (.lst ((p.rks.map fun j => p.nms.getD j []).map strL))), st) := by rw [hlc, List.map_map]; rfl
    have hs : ((p.rks.map fun j => p.nms.getD j []).map List.length).sum ≤ (p.rks.map fun j => p.nms.getD j []).length * 8 := sum_le fun x hx => by
      obtain ⟨j, hj, rfl⟩ := List.mem_map.mp hx
      exact name_len h (rks_lt h hj)
    have jl := joinL_len [32] (p.rks.map fun j => p.nms.getD j [])
    have rl := rks_len h
    simp only [List.length_singleton, List.length_map] at jl hs
    have k1 : (cds "rank ").length = 5 := by decide
    have k3 : (cds ";").length = 1 := by decide
    have a3 := cat_ok (cat_ok (lit_ok "rank " _ st) (join_lst hlc' (by rw [List.length_map]; omega)) (by omega)) (lit_ok ";" _ st) (by simp only [List.length_append]; omega)
    refine expr_nx (x := .val .non) ?_
    have e3 : cds "rank " ++ TL.joinL [32] (p.rks.map fun j => p.nms.getD j []) ++ cds ";" = lineOf (kyw "rank" :: p.rks.map fun j => naw (p.nms.getD j [])) := by
      have : (p.rks.map fun j => naw (p.nms.getD j [])).map (·.2) = p.rks.map fun j => p.nms.getD j [] := by rw [List.map_map]; rfl
      unfold lineOf
      rw [List.map_cons, this, joinL_cons]
      · simp [kyw, cds]
      · intro e
        have := List.map_eq_nil_iff.mp e
        rw [this] at rl
        exact h.n1 (List.length_eq_zero_iff.mp rl.symm)
    rw [e3] at a3
    rw [bm1 (var_obj (i := 2) rfl g2) (chk_list g2) a3, gApp_eq g2 (by simp [Pl.l3]), ← hst]
    simp [Pl.lr, hr]
theorem for_ok {fi : MI} {g : MG} {b : MS} {sl : Sl} {st st1 : List O} {xs : List S} {C : List O → Prop} {r : Option (Fl × Sl × List O)} (h : fi sl st = some (.ok (xs, C), st1)) (h2 : forL C g b xs sl st1 = r) : sFor fi g b sl st = r := by
  unfold sFor sBind
  simp only [h]
  exact h2
theorem iof_lst {e : ME} {sl : Sl} {st st1 : List O} {l : List D} (h : e sl st = some (.ok (.val (.lst l)), st1)) : iOf e sl st = some (.ok (l.map .val, always), st1) := by
  unfold iOf
  simp only [M.bind, h, gIter]
theorem callP1 {f : PF} {e : ME} {sl : Sl} {st st1 : List O} {a r : D} (h : e sl st = some (.ok (.val a), st1)) (hf : f [a] = some (.ok r)) : eArgs (gCallP 1 f []) (aCons e aNil) sl st = some (.ok (.val r), st1) := by
  rw [args1 h]; simp [hf]
theorem lines_ne (p : Pl) : p.l3 ++ p.lr ++ p.ls ++ p.lp = p.lines := rfl
theorem format_eq {p : Pl} (h : Pok p) : F_format_parsed [p.parsed] = some (.ok (strL p.text)) := by
  have hz : ((p.lines.map lineOf).map List.length).sum + (p.lines.map lineOf).length * [10].length ≤ 16777216 := by
    have h1 := sum_le (l := p.lines.map lineOf) (k := 100) fun x hx => by
      obtain ⟨ws, hw, rfl⟩ := List.mem_map.mp hx
      obtain ⟨w1, w2, w3⟩ := lines_ok h ws hw
      exact line_len w2 w3
    have h2 := lines_len h
    simp only [List.length_map, List.length_singleton] at h1 ⊢
    omega
  have ll := lines_len h
  rw [← lines_ne] at ll
  simp only [List.length_append] at ll
  have l1 : p.ls.length = p.sts.length := by simp [Pl.ls]
  have l2 : p.lp.length = (runsL p.pau).length := by simp [Pl.lp]
  obtain ⟨x3, x4, x5, e4⟩ := fmt_starts h p.sts (p.l3 ++ p.lr) none none none (fun s hs => hs) (by rw [List.length_append]; omega)
  obtain ⟨x6, x7, e5⟩ := fmt_pauses h x3 x4 x5 (runsL p.pau) (p.l3 ++ p.lr ++ p.ls) none none (fun s hs => hs) (by simp only [List.length_append]; omega)
  rw [show p.sts.map triV = (p.sts.map triD).map S.val by rw [List.map_map]; rfl] at e4
  rw [show (runsL p.pau).map prV = ((runsL p.pau).map fun q => pr q.1 q.2).map S.val by rw [List.map_map]; rfl] at e5
  unfold F_format_parsed asP b_format_parsed
  rw [List.map_cons, List.map_nil]
  have r1 := seq_nx (b := (sSeq (sSet 2 (eArgs gLstO (aCons (eBin gAdd (eBin gAdd (eC (.str "round ")) (eArgs (g1 gStr) (aCons (eFld ["Plan"] "length" (eVar 0)) aNil))) (eC (.str ";"))) (aCons (eBin gAdd (eBin gAdd (eC (.str "open ")) (eArgs (g1 gStr) (aCons (eFld ["Plan"] "most" (eVar 0)) aNil))) (eC (.str ";"))) (aCons (eBin gAdd (eBin gAdd (eC (.str "valves ")) (eBM "str" gJoin (eC (.str " ")) (aCons (eVar 1) aNil))) (eC (.str ";"))) aNil)))))
    (sSeq (sIf (tBin gNe (eFld ["Plan"] "ranks" (eVar 0)) (eLRg1 (eArgs (g1 gLen) (aCons (eVar 1) aNil)))) (sExpr (eBM "list" gAppend (eVar 2) (aCons (eBin gAdd (eBin gAdd (eC (.str "rank ")) (eBM "str" gJoin (eC (.str " ")) (aCons (eLc [3] (iOf (eFld ["Plan"] "ranks" (eVar 0))) (tgName 3) tTrue e1_format_parsed) aNil))) (eC (.str ";"))) aNil))) sNext)
    (sSeq (sFor (iOf (eFld ["Plan"] "starts" (eVar 0))) (tgTup 3 (tgCons (tgName 4) (tgCons (tgName 3) (tgCons (tgName 5) tgNil)))) l2_format_parsed)
    (sSeq (sFor (iOf (eArgs (gCallP 1 F_runs_of []) (aCons (eFld ["Plan"] "paused" (eVar 0)) aNil))) (tgTup 2 (tgCons (tgName 6) (tgCons (tgName 7) tgNil))) l1_format_parsed)
    (sRet (eBM "str" gJoin (eC (.str "\n")) (aCons (eVar 2) aNil)))))))) (set_nx (i := 1) (fld_ok (var_val (i := 0) (sl := mkSl 8 [.val p.parsed]) (st := []) (v := p.parsed) rfl) (fl_names p [])))
  have r2 := (seq_nx (b := (sSeq (sIf (tBin gNe (eFld ["Plan"] "ranks" (eVar 0)) (eLRg1 (eArgs (g1 gLen) (aCons (eVar 1) aNil)))) (sExpr (eBM "list" gAppend (eVar 2) (aCons (eBin gAdd (eBin gAdd (eC (.str "rank ")) (eBM "str" gJoin (eC (.str " ")) (aCons (eLc [3] (iOf (eFld ["Plan"] "ranks" (eVar 0))) (tgName 3) tTrue e1_format_parsed) aNil))) (eC (.str ";"))) aNil))) sNext)
    (sSeq (sFor (iOf (eFld ["Plan"] "starts" (eVar 0))) (tgTup 3 (tgCons (tgName 4) (tgCons (tgName 3) (tgCons (tgName 5) tgNil)))) l2_format_parsed)
    (sSeq (sFor (iOf (eArgs (gCallP 1 F_runs_of []) (aCons (eFld ["Plan"] "paused" (eVar 0)) aNil))) (tgTup 2 (tgCons (tgName 6) (tgCons (tgName 7) tgNil))) l1_format_parsed)
    (sRet (eBM "str" gJoin (eC (.str "\n")) (aCons (eVar 2) aNil))))))) (set_nx (i := 2) (fmt_2 h)))
  rw [r1.trans r2]
  have s3 := seq_nx (b := (sSeq (sFor (iOf (eFld ["Plan"] "starts" (eVar 0))) (tgTup 3 (tgCons (tgName 4) (tgCons (tgName 3) (tgCons (tgName 5) tgNil)))) l2_format_parsed)
    (sSeq (sFor (iOf (eArgs (gCallP 1 F_runs_of []) (aCons (eFld ["Plan"] "paused" (eVar 0)) aNil))) (tgTup 2 (tgCons (tgName 6) (tgCons (tgName 7) tgNil))) l1_format_parsed)
    (sRet (eBM "str" gJoin (eC (.str "\n")) (aCons (eVar 2) aNil)))))) (fmt_3 h)
  have f4 := for_ok (iof_lst (fld_ok (var_val (i := 0) (sl := fSl p none none none none none) (st := [.lst ((p.l3 ++ p.lr).map lnV)]) (v := p.parsed) rfl) (fl_starts p _))) e4
  have f5 := for_ok (iof_lst (callP1 (fld_ok (var_val (i := 0) (sl := fSl p x3 x4 x5 none none) (st := [.lst ((p.l3 ++ p.lr ++ p.ls).map lnV)]) (v := p.parsed) rfl) (fl_paused p _)) (runs_of_plan h))) e5
  have s45 := (seq_nx (b := (sSeq (sFor (iOf (eArgs (gCallP 1 F_runs_of []) (aCons (eFld ["Plan"] "paused" (eVar 0)) aNil))) (tgTup 2 (tgCons (tgName 6) (tgCons (tgName 7) tgNil))) l1_format_parsed)
    (sRet (eBM "str" gJoin (eC (.str "\n")) (aCons (eVar 2) aNil))))) f4).trans (seq_nx f5)
  refine (congrArg exitP (s3.trans s45)).trans ?_
  have g2 : ([.lst ((p.l3 ++ p.lr ++ p.ls ++ p.lp).map lnV)] : List O)[0]? = some (.lst ((p.l3 ++ p.lr ++ p.ls ++ p.lp).map lnV)) := rfl
  have v2 := var_obj (i := 2) (sl := fSl p x3 x4 x5 x6 x7) rfl g2
  have hj : gJoin (.val (.str "\n")) [.obj 0] [.lst (p.lines.map lnV)] = some (.ok (.val (strL p.text)), [.lst (p.lines.map lnV)]) := by
    rw [lit_nl]
    have := join_eq [10] (p.lines.map lineOf) [.lst (p.lines.map lnV)] hz
    unfold gJoin at this ⊢
    simp only [seqOf, lstOf, List.getElem?_cons_zero] at this ⊢
    rw [show p.lines.map lnV = ((p.lines.map lineOf).map strL).map S.val by simp [lnV]]
    rw [show p.lines.map lnV = ((p.lines.map lineOf).map strL).map S.val by simp [lnV]] at this
    exact this
  have last : eBM "str" gJoin (eC (.str "\n")) (aCons (eVar 2) aNil) (fSl p x3 x4 x5 x6 x7) [.lst ((p.l3 ++ p.lr ++ p.ls ++ p.lp).map lnV)] = some (.ok (.val (strL p.text)), [.lst (p.lines.map lnV)]) := by
    rw [bm1 (x := .val (.str "\n")) rfl (by simp) v2]
    exact hj
  refine (congrArg exitP (ret_ok last)).trans ?_
  simp [deepD]
end G
namespace G
open PySem L2 Cl
def nameB (w : List Nat) : List Nat := w.length :: w.map (· - 97)
def Pl.b1 (p : Pl) : List Nat := [87, p.len, p.most, p.nms.length] ++ (p.nms.map nameB).flatten
def Pl.b2 (p : Pl) : List Nat := p.b1 ++ p.rks ++ [p.sts.length]
def Pl.b3 (p : Pl) : List Nat := p.b2 ++ (p.sts.map fun s => [s.1, s.2.1, s.2.2]).flatten
def Pl.bytes (p : Pl) : List Nat := p.b3 ++ [(runsL p.pau).length] ++ ((runsL p.pau).map fun q => [q.1, q.2]).flatten
theorem gLen_str (w : List Nat) (st : List O) (h : w.length ≤ 1000) : gLen (.val (strL w)) st = some (.ok (iV w.length), st) := by
  have z : w.length ≤ sizeLine := Nat.le_of_lt (sizes (by omega))
  simp [gLen, strL, z]
abbrev nV (n : Nat) : S := iV (n : Int)
theorem datas_nV (l : List Nat) : datas (l.map nV) = some (l.map iD) := datas_comp iD l
theorem nV_map (l : List Nat) : (l.map iD).map S.val = l.map nV := by rw [List.map_map]; rfl
end G
namespace G
open PySem L2 Cl
def Pl.code (p : Pl) : List Nat := p.bytes ++ [p.bytes.sum % 256]
theorem acons1 {e : ME} {sl : Sl} {st st' : List O} {x : S} (h : e sl st = some (.ok x, st')) : aCons e aNil sl st = some (.ok [x], st') := by simp [h]
end G
namespace G
open PySem L2 Cl
theorem guard_f {c : MT} {a b : MS} {sl : Sl} {st : List O} (h : c sl st = some (.ok false, st)) : sSeq (sIf c a sNext) b sl st = b sl st := by
  rw [seq_nx (sl' := sl) (st' := st)]
  rw [if_f h]; rfl
theorem guard_t {c : MT} {a b : MS} {sl sl' : Sl} {st st' : List O} {x : S} (h : c sl st = some (.ok true, st)) (ha : a sl st = some (.rt x, sl', st')) : sSeq (sIf c a sNext) b sl st = some (.rt x, sl', st') := by
  unfold sSeq
  rw [if_t h, ha]
theorem tof {e : ME} {sl : Sl} {st st' : List O} {b : Bool} (h : e sl st = some (.ok (.val (.bl b)), st')) : tOfE e sl st = some (.ok b, st') := by
  unfold tOfE
  simp only [M.bind, h, M.pure]
theorem tbin {g : S → S → M S} {a c : ME} {sl : Sl} {st st' : List O} {b : Bool} (h : eBin g a c sl st = some (.ok (.val (.bl b)), st')) : tBin g a c sl st = some (.ok b, st') := by
  unfold tBin
  simp only [M.bind, h, M.pure]
end G
namespace G
open PySem L2 Cl
section
variable {s : List O} {j i n : Nat} {ex : List O} {code : List Nat} {sl : Sl}
theorem tor_f {a b : MT} {st st' : List O} (h : a sl st = some (.ok false, st')) : tOrM a b sl st = b sl st' := by
  unfold tOrM
  simp only [M.bind, h]
  rfl
theorem tnot {a : MT} {st st' : List O} {k : Bool} (h : a sl st = some (.ok k, st')) : tNotM a sl st = some (.ok (!k), st') := by
  unfold tNotM
  simp only [M.bind, h, M.pure]
end
end G
namespace G
open PySem L2 Cl
section
variable {s : List O} {j i n : Nat} {ex : List O} {code : List Nat} {sl : Sl}
theorem in_intsO' (x : Nat) (js : List Nat) {st : List O} {m : Nat} (h : st[m]? = some (.lst (js.map nV))) : gInB false (nV x) (.obj m) st = some (.ok (.val (.bl (decide (x ∈ js)))), st) := in_intsO x js st m h
end
end G
namespace G
open PySem L2 Cl
section
variable {s : List O} {j i n : Nat} {ex : List O} {code : List Nat} {sl : Sl}
theorem tand_t {a b : MT} {st st' : List O} (h : a sl st = some (.ok true, st')) : tAndM a b sl st = b sl st' := by
  unfold tAndM
  simp only [M.bind, h]
  rfl
theorem tand_f {a b : MT} {st st' : List O} (h : a sl st = some (.ok false, st')) : tAndM a b sl st = some (.ok false, st') := by
  unfold tAndM
  simp only [M.bind, h]
  rfl
end
end G
namespace G
open PySem L2 Cl
section
variable {s : List O} {j i n : Nat} {ex : List O} {code : List Nat} {sl : Sl}
theorem par_ok {i j : Nat} {a b : ME} {sl : Sl} {st st1 st2 : List O} {x y : S} (h1 : a sl st = some (.ok x, st1)) (h2 : b sl st1 = some (.ok y, st2)) : sPar i j (aCons a (aCons b aNil)) sl st = some (.nx, (sl.set i (some x)).set j (some y), st2) := by
  simp [h1, h2]
theorem range_of {e : ME} {sl : Sl} {st st' : List O} {k : Nat} (h : e sl st = some (.ok (nV k), st')) (hk : k ≤ 100000) : iArgs gRange1 (aCons e aNil) sl st = some (.ok ((List.range k).map fun i : Nat => S.val (iD i), always), st') := by
  rw [iargs1 h]
  exact range_val k (by omega) _
end
end G
namespace G
open PySem L2 Cl
section
variable {s : List O} {j i n : Nat} {ex : List O} {code : List Nat} {sl : Sl}
theorem meth1 {ns : List Str} {m : Str} {F : OF} {a e : ME} {st st1 st2 : List O} {x y r : S} {k : Nat} (h0 : a sl st = some (.ok x, st)) (hc : chkM ns m x st = some (.ok (), st)) (h1 : e sl st = some (.ok y, st1)) (hF : F [x, y] st1 = some (.ok r, st2)) : eMeth ns m (gCallO 2 F []) a (aCons e aNil) sl st = some (.ok r, st2) := by
  unfold eMeth
  simp only [M.bind, h0, hc, acons1 h1]
  simp only [gCallO, List.map_nil, List.append_nil, List.length_cons, List.length_nil, if_true]
  exact hF
theorem acons2d {e f : ME} {st st1 st2 : List O} {x y : S} (h : e sl st = some (.ok x, st1)) (h2 : f sl st1 = some (.ok y, st2)) : aCons e (aCons f aNil) sl st = some (.ok [x, y], st2) := by simp [h, h2]
theorem meth2 {ns : List Str} {m : Str} {F : OF} {a e f : ME} {st st1 st2 st3 : List O} {x y z r : S} (h0 : a sl st = some (.ok x, st)) (hc : chkM ns m x st = some (.ok (), st)) (h1 : e sl st = some (.ok y, st1)) (h2 : f sl st1 = some (.ok z, st2)) (hF : F [x, y, z] st2 = some (.ok r, st3)) : eMeth ns m (gCallO 3 F []) a (aCons e (aCons f aNil)) sl st = some (.ok r, st3) := by
  unfold eMeth
  simp only [M.bind, h0, hc, acons2d h1 h2]
  simp only [gCallO, List.map_nil, List.append_nil, List.length_cons, List.length_nil, if_true]
  exact hF
theorem fldset_ok {ns : List Str} {f c : Str} {o v : ME} {st st1 st2 : List O} {y : S} {k : Nat} {fs : List (Str × S)} (hv : v sl st = some (.ok y, st1)) (ho : o sl st1 = some (.ok (.obj k), st2)) (hk : st2[k]? = some (.ins c fs)) (hc : c ∈ ns) (hl : fs.length < 1000) : sFldSet ns f o v sl st = some (.nx, sl, st2.set k (.ins c (putD f y fs))) := by
  unfold sFldSet sBind
  simp only [hv, ho, hk]
  rw [if_pos ⟨hc, hl⟩]
end
end G
namespace G
open PySem L2 Cl
theorem seed_loop (scr : S) (x1 : Option S) : ∀ (ns : List Int) (seed : Int) (x3 : Option S), 0 ≤ seed → seed < 2147483647 →
    ∃ (seed' : Int) (x3' : Option S), 0 ≤ seed' ∧ seed' < 2147483647 ∧ forL always (tgName 3) l1__law_random (ns.map fun i => S.val (.int i)) [some scr, x1, some (iV seed), x3] [] = some (.nx, [some scr, x1, some (iV seed'), x3'], [])
  | [], seed, x3, h1, h2 => ⟨seed, x3, h1, h2, for_nil trivial⟩
  | z :: ns, seed, x3, h1, h2 => by
    have m1 : 0 ≤ (seed * 31 + (if z < 0 then -z else z)) % 2147483647 := Int.emod_nonneg _ (by omega)
    have m2 : (seed * 31 + (if z < 0 then -z else z)) % 2147483647 < 2147483647 := Int.emod_lt_of_pos _ (by omega)
    obtain ⟨seed', x3', a1, a2, a3⟩ := seed_loop scr x1 ns ((seed * 31 + (if z < 0 then -z else z)) % 2147483647) (some (iV z)) m1 m2
    refine ⟨seed', x3', a1, a2, ?_⟩
    rw [List.map_cons, for_cons trivial rfl (sl2 := [some scr, x1, some (iV ((seed * 31 + (if z < 0 then -z else z)) % 2147483647)), some (iV z)]) (st2 := [])]
    · exact a3
    · simp [l1__law_random, gAbs]
theorem random_eq (ns : List Int) (salt : Int) (h1 : 0 ≤ salt) (h2 : salt < 2147483647) (hl : ns.length ≤ 63) : ∃ d : List Int, GoodD d ∧ F__law_random [.scr (ns.map D.int), .int salt] = some (.ok (.lst (d.map D.int))) := by
  obtain ⟨seed, x3, a1, a2, a3⟩ := seed_loop (.val (.scr (ns.map D.int))) (some (iV salt)) ns salt none h1 h2
  have hi : ∀ sl : Sl, sl[0]? = some (some (.val (.scr (ns.map D.int)))) → iOf (eVar 0) sl [] = some (.ok (ns.map fun i => S.val (.int i), always), []) := fun sl hs => by
    unfold iOf
    simp only [M.bind, var_val hs, gIter, List.map_map]
    rfl
  have lc := eLc_map (vs := [3]) (fi := iOf (eVar 0)) (g := tgName 3) (t := t1__law_random) (e := e1__law_random) (sl := [some (.val (.scr (ns.map D.int))), some (iV salt), some (iV seed), x3]) (st := []) (C := always) (fun i : Int => S.val (.int i)) (fun i => decide (1000000000000000000 ≤ i)) D.int ns (hi _ rfl) trivial (Nat.le_of_lt (sizes (by omega)))
    (fun i _ => ⟨[some (.val (.scr (ns.map D.int))), some (iV salt), some (iV seed), some (iV i)], rfl, by simp [t1__law_random], fun _ => by simp [e1__law_random]⟩)
  refine ⟨seed :: 0 :: ns.filter fun i => decide (1000000000000000000 ≤ i), ⟨seed, 0, _, rfl, a1, a2, Int.le_refl _, fun x hx => ?_⟩, ?_⟩
  · have := of_decide_eq_true (List.mem_filter.mp hx).2
    omega
  · have cat : eBin gCatO (eArgs Cl.gLst (aCons (eVar 2) (aCons (eC (.int 0)) aNil))) (eLc [3] (iOf (eVar 0)) (tgName 3) t1__law_random e1__law_random) [some (.val (.scr (ns.map D.int))), some (iV salt), some (iV seed), x3] [] = some (.ok (.obj 0), [.lst ((seed :: 0 :: ns.filter fun i => decide (1000000000000000000 ≤ i)).map fun i => S.val (.int i))]) := by
      rw [bin_ok (x := .val (.lst [.int seed, .int 0])) (st1 := []) (by simp [Cl.gLst]) lc]
      have z : (ns.filter fun i => decide (1000000000000000000 ≤ i)).length + 1 + 1 ≤ sizeLine := Nat.le_of_lt (sizes (by have := List.length_filter_le (fun i => decide (1000000000000000000 ≤ i)) ns; omega))
      simp [gCatO, z]
    unfold F__law_random asN b__law_random
    rw [show mkSl 4 ([.scr (ns.map D.int), .int salt].map S.val) = [some (.val (.scr (ns.map D.int))), some (iV salt), none, none] from rfl]
    have body := (seq_nx (b := sSeq (sFor (iOf (eVar 0)) (tgName 3) l1__law_random) (sRet (eBin gCatO (eArgs Cl.gLst (aCons (eVar 2) (aCons (eC (.int 0)) aNil))) (eLc [3] (iOf (eVar 0)) (tgName 3) t1__law_random e1__law_random)))) (set_nx (i := 2) (var_val (i := 1) (v := .int salt) (sl := [some (.val (.scr (ns.map D.int))), some (iV salt), none, none]) (st := []) rfl))).trans ((seq_nx (for_ok (hi _ rfl) a3)).trans (ret_ok cat))
    rw [body]
    unfold exitN
    simp only [List.getElem?_cons_zero]
    rw [show datas ((seed :: 0 :: ns.filter fun i => decide (1000000000000000000 ≤ i)).map fun i => S.val (.int i)) = some ((seed :: 0 :: ns.filter fun i => decide (1000000000000000000 ≤ i)).map D.int) from datas_comp D.int _]
    rfl
theorem callO1 {F : OF} {e : ME} {sl : Sl} {st st1 st2 : List O} {x r : S} (h : e sl st = some (.ok x, st1)) (hF : F [x] st1 = some (.ok r, st2)) : eArgs (gCallO 1 F []) (aCons e aNil) sl st = some (.ok r, st2) := by
  rw [args1 h]
  simp only [gCallO, List.map_nil, List.append_nil, List.length_cons, List.length_nil, if_true]
  exact hF
end G
namespace G
open PySem L2 Cl
theorem tor_ff15 {a b : MT} {sl : Sl} {st : List O} (h : a sl st = some (.ok false, st)) (h2 : b sl st = some (.ok false, st)) : tOrM a b sl st = some (.ok false, st) := by rw [tor_f h]; exact h2
end G
namespace G
open PySem L2 Cl
/-- errors without attributes: how they are told -/
def plainE : List (Str × Str) := [("InvalidTick", "tick"), ("InvalidCount", "count"), ("UnknownValve", "valve"), ("TooLong", "long"), ("DifferentValves", "different"), ("Contradiction", "contradiction"), ("QueueFull", "queue"), ("InvalidName", "name"), ("UnknownName", "unknown"), ("TooManyStarts", "many")]
/-- what _law_error_of tells of an error -/
def told (x : XD) : Option D :=
  if x.fs.isEmpty = true then (plainE.lookup x.n).map fun s => .tup [.str s, .int 0]
  else if x.n = "InvalidCode" then (match x.fs with
    | [(f, .int p)] => if f = "place" then some (.tup [.str "code", .int p]) else none
    | _ => none)
  else if x.n = "InvalidOperation" then (match x.fs with
    | [(f, .int p)] => if f = "place" then some (.tup [.str "operation", .int p]) else none
    | _ => none)
  else if x.n = "SyntaxFault" then (match x.fs with
    | [(f, .int p), (g, .int q)] => if f = "column" ∧ g = "line" then some (.tup [.str "syntax", .tup [.int q, .int p]]) else none
    | _ => none)
  else if x.n = "CheckFault" then (match x.fs with
    | [(f, .int p), (g, .int q), (h, .str r)] => if f = "column" ∧ g = "line" ∧ h = "reason" then some (.tup [.str "check", .tup [.str r, .int q, .int p]]) else none
    | _ => none)
  else none
section
variable {a : Addr} {x : XD}
/-- slots of the suite -/
abbrev eSl0 (a : Addr) (k n m : Option S) : Sl := [none, some (.val (.vv (.ref a))), k, n, m]
theorem isx {k n m : Option S} {b : Bool} (st : List O) : eIsX 1 a b (eSl0 a k n m) st = some (.ok (.val (.bl b)), st) := by simp [eIsX, atE]
theorem xf {k n m : Option S} {f : Str} {d : D} (h : x.fs.lookup f = some d) (st : List O) (hf : fldB x.n f = true := by rfl) : eXf 1 a x f (eSl0 a k n m) st = some (.ok (.val d), st) := by simp [eXf, atE, h, hf]
theorem lst3 (b c d : D) (st : List O) : Cl.gLst [.val b, .val c, .val d] st = some (.ok (.val (.lst [b, c, d])), st) := by simp [Cl.gLst]
theorem lst2 (b c : D) (st : List O) : Cl.gLst [.val b, .val c] st = some (.ok (.val (.lst [b, c])), st) := by simp [Cl.gLst]
/-- the fourteen answers -/
def kindsOf (n : Str) : List D := [.bl (n == "InvalidTick"), .bl (n == "InvalidCount"), .bl (n == "UnknownValve"), .bl (n == "TooLong"), .bl (n == "DifferentValves"), .bl (n == "Contradiction"), .bl (n == "QueueFull"), .bl (n == "InvalidName"), .bl (n == "UnknownName"), .bl (n == "TooManyStarts"), .bl (n == "SyntaxFault"), .bl (n == "CheckFault"), .bl (n == "InvalidCode"), .bl (n == "InvalidOperation")]
/-- what stands behind the five assignments -/
noncomputable def tl_error_of (a : Addr) (x : XD) : MS := (sSeq (sIf (tOrM (tBin gNe (eBM "list" gCntB (eVar 2) (aCons (eC (.bl true)) aNil)) (eC (.int 1))) (tNotM (tOfE (eIsX 1 a true)))) (sRet (eArgs Cl.gTup (aCons (eC (.str "other")) (aCons (eC (.int 0)) aNil)))) sNext)
    (sSeq (sSet 3 (eArgs Cl.gLst (aCons (eC (.str "tick")) (aCons (eC (.str "count")) (aCons (eC (.str "valve")) (aCons (eC (.str "long")) (aCons (eC (.str "different")) (aCons (eC (.str "contradiction")) (aCons (eC (.str "queue")) (aCons (eC (.str "name")) (aCons (eC (.str "unknown")) (aCons (eC (.str "many")) aNil))))))))))))
    (sSeq (sSet 4 (eBin gIx (eBin gAdd (eVar 3) (eArgs Cl.gLst (aCons (eC (.str "syntax")) (aCons (eC (.str "check")) (aCons (eC (.str "code")) (aCons (eC (.str "operation")) aNil)))))) (eBM "list" gIndex (eVar 2) (aCons (eC (.bl true)) aNil))))
    (sSeq (sIf (tBin (gInB false) (eVar 4) (eArgs Cl.gLst (aCons (eC (.str "syntax")) (aCons (eC (.str "check")) aNil)))) (sRet (eArgs Cl.gTup (aCons (eVar 4) (aCons (eIf (tBin gEq (eVar 4) (eC (.str "syntax"))) (eArgs Cl.gTup (aCons (eXf 1 a x "line") (aCons (eXf 1 a x "column") aNil))) (eArgs Cl.gTup (aCons (eXf 1 a x "reason") (aCons (eXf 1 a x "line") (aCons (eXf 1 a x "column") aNil))))) aNil)))) sNext)
    (sRet (eArgs Cl.gTup (aCons (eVar 4) (aCons (eIf (tBin (gInB false) (eVar 4) (eArgs Cl.gLst (aCons (eC (.str "code")) (aCons (eC (.str "operation")) aNil)))) (eXf 1 a x "place") (eC (.int 0))) aNil))))))))
theorem cat3 {k n m : Option S} {l : List D} {b1 b2 b3 : Bool} (hl : l.length ≤ 20) (hk : k = some (.val (.lst l))) : eBin gAdd (eVar 2) (eArgs Cl.gLst (aCons (eIsX 1 a b1) (aCons (eIsX 1 a b2) (aCons (eIsX 1 a b3) aNil)))) (eSl0 a k n m) [] = some (.ok (.val (.lst (l ++ [.bl b1, .bl b2, .bl b3]))), []) := by
  subst hk
  rw [bin_ok (var_val (v := .lst l) rfl) ((args3 (isx _) (isx _) (isx _)).trans (lst3 _ _ _ _))]
  exact gAdd_lst _ _ _ (Nat.le_of_lt (sizes (by simp; omega)))
theorem err_kinds : bs_error_of a x (eSl0 a none none none) [] = tl_error_of a x (eSl0 a (some (.val (.lst (kindsOf x.n)))) none none) [] := by
  unfold bs_error_of
  refine (seq_nx (set_nx ((args3 (isx _) (isx _) (isx _)).trans (lst3 _ _ _ _)))).trans ?_
  refine (seq_nx (set_nx (cat3 (by simp) rfl))).trans ?_
  refine (seq_nx (set_nx (cat3 (by simp) rfl))).trans ?_
  refine (seq_nx (set_nx (cat3 (by simp) rfl))).trans ?_
  refine (seq_nx (set_nx ((bin_ok (var_val (v := .lst _) rfl) ((args2 (isx _) (isx _)).trans (lst2 _ _ _))).trans (gAdd_lst _ _ _ (Nat.le_of_lt (sizes (by simp))))))).trans ?_
  rfl
theorem slE_at : slE 5 a = eSl0 a none none none := rfl
theorem eif_t' {c : MT} {f g : ME} {sl : Sl} {st st' : List O} (h : c sl st = some (.ok true, st')) : eIf c f g sl st = f sl st' := by simp [eIf, h]
theorem eif_f' {c : MT} {f g : ME} {sl : Sl} {st st' : List O} (h : c sl st = some (.ok false, st')) : eIf c f g sl st = g sl st' := by simp [eIf, h]
abbrev nmsE : D := .lst [.str "tick", .str "count", .str "valve", .str "long", .str "different", .str "contradiction", .str "queue", .str "name", .str "unknown", .str "many"]
/-- up to the name -/
theorem err_name {nm : Str} {st : List O} (h1 : tBin gNe (eBM "list" gCntB (eVar 2) (aCons (eC (.bl true)) aNil)) (eC (.int 1)) (eSl0 a (some (.val (.lst (kindsOf x.n)))) none none) [] = some (.ok false, []))
    (h2 : eBin gIx (eBin gAdd (eVar 3) (eArgs Cl.gLst (aCons (eC (.str "syntax")) (aCons (eC (.str "check")) (aCons (eC (.str "code")) (aCons (eC (.str "operation")) aNil)))))) (eBM "list" gIndex (eVar 2) (aCons (eC (.bl true)) aNil)) (eSl0 a (some (.val (.lst (kindsOf x.n)))) (some (.val nmsE)) none) [] = some (.ok (.val (.str nm)), [])) :
    bs_error_of a x (slE 5 a) [] = (sSeq (sIf (tBin (gInB false) (eVar 4) (eArgs Cl.gLst (aCons (eC (.str "syntax")) (aCons (eC (.str "check")) aNil)))) (sRet (eArgs Cl.gTup (aCons (eVar 4) (aCons (eIf (tBin gEq (eVar 4) (eC (.str "syntax"))) (eArgs Cl.gTup (aCons (eXf 1 a x "line") (aCons (eXf 1 a x "column") aNil))) (eArgs Cl.gTup (aCons (eXf 1 a x "reason") (aCons (eXf 1 a x "line") (aCons (eXf 1 a x "column") aNil))))) aNil)))) sNext)
    (sRet (eArgs Cl.gTup (aCons (eVar 4) (aCons (eIf (tBin (gInB false) (eVar 4) (eArgs Cl.gLst (aCons (eC (.str "code")) (aCons (eC (.str "operation")) aNil)))) (eXf 1 a x "place") (eC (.int 0))) aNil))))) (eSl0 a (some (.val (.lst (kindsOf x.n)))) (some (.val nmsE)) (some (.val (.str nm)))) [] := by
  rw [slE_at, err_kinds]
  unfold tl_error_of
  rw [guard_f (tor_ff15 h1 (by rw [tnot (tof (isx _))]; rfl))]
  refine (seq_nx (set_nx (d := .val nmsE) (st' := []) rfl)).trans ?_
  exact seq_nx (set_nx (i := 4) h2)
theorem tup2 (b c : D) (st : List O) : Cl.gTup [.val b, .val c] st = some (.ok (.val (.tup [b, c])), st) := by simp [Cl.gTup]
theorem tup3 (b c d : D) (st : List O) : Cl.gTup [.val b, .val c, .val d] st = some (.ok (.val (.tup [b, c, d])), st) := by simp [Cl.gTup]
/-- told with its place, or with 0 -/
theorem err_place {k n : Option S} {nm : Str} {d : D} (h1 : tBin (gInB false) (eVar 4) (eArgs Cl.gLst (aCons (eC (.str "syntax")) (aCons (eC (.str "check")) aNil))) (eSl0 a k n (some (.val (.str nm)))) [] = some (.ok false, []))
    (h2 : eIf (tBin (gInB false) (eVar 4) (eArgs Cl.gLst (aCons (eC (.str "code")) (aCons (eC (.str "operation")) aNil)))) (eXf 1 a x "place") (eC (.int 0)) (eSl0 a k n (some (.val (.str nm)))) [] = some (.ok (.val d), [])) {b : MS} :
    exitT (sSeq (sIf (tBin (gInB false) (eVar 4) (eArgs Cl.gLst (aCons (eC (.str "syntax")) (aCons (eC (.str "check")) aNil)))) b sNext) (sRet (eArgs Cl.gTup (aCons (eVar 4) (aCons (eIf (tBin (gInB false) (eVar 4) (eArgs Cl.gLst (aCons (eC (.str "code")) (aCons (eC (.str "operation")) aNil)))) (eXf 1 a x "place") (eC (.int 0))) aNil)))) (eSl0 a k n (some (.val (.str nm)))) []) = some (.tup [.str nm, d]) := by
  rw [guard_f h1, ret_ok ((args2 (var_val (v := .str nm) rfl) h2).trans (tup2 _ _ _))]
  simp [deepD]
theorem isSyn {k n : Option S} {nm : Str} {b : Bool} (hs : PyData.strOk nm = true) (h : decide (nm = "syntax") = b) : tBin gEq (eVar 4) (eC (.str "syntax")) (eSl0 a k n (some (.val (.str nm)))) [] = some (.ok b, []) := by
  subst h
  exact tbin ((bin_ok (var_val (v := .str nm) rfl) rfl).trans (gEq_str _ hs (by decide +kernel)))
end
theorem plain_ok {n nm : Str} (h : (n, nm) ∈ plainE) (a : Addr) : exitT (bs_error_of a ⟨n, []⟩ (slE 5 a) []) = some (.tup [.str nm, .int 0]) := by
  simp only [plainE, List.mem_cons, Prod.mk.injEq, List.not_mem_nil, or_false] at h
  rcases h with ⟨rfl, rfl⟩ | ⟨rfl, rfl⟩ | ⟨rfl, rfl⟩ | ⟨rfl, rfl⟩ | ⟨rfl, rfl⟩ | ⟨rfl, rfl⟩ | ⟨rfl, rfl⟩ | ⟨rfl, rfl⟩ | ⟨rfl, rfl⟩ | ⟨rfl, rfl⟩
  all_goals
    rw [err_name (st := []) rfl rfl]
    exact err_place rfl (by rw [eif_f' (st' := []) rfl]; rfl)
theorem mem_plain {n nm : Str} (h : plainE.lookup n = some nm) : (n, nm) ∈ plainE := PySem.mem_of_lookup h
theorem told_ok : ∀ z dd, told z = some dd → z.n ∈ errL ∧ (z.fs.all fun p => isSc p.2) = true ∧ ∀ a, exitT (bs_error_of a z (slE 5 a) []) = some dd := by
  intro z dd h
  obtain ⟨n, fs⟩ := z
  unfold told at h
  dsimp only at h
  split at h
  · rename_i he
    obtain rfl : fs = [] := by simpa using he
    obtain ⟨nm, h1, rfl⟩ := Option.map_eq_some_iff.mp h
    have hm := mem_plain h1
    refine ⟨?_, rfl, fun a => plain_ok hm a⟩
    have : plainE.all (fun p => errL.elem p.1) = true := by decide +kernel
    exact List.elem_iff.mp (List.all_eq_true.mp this _ hm)
  split at h
  · rename_i hn
    subst hn
    split at h
    · rename_i p
      split at h
      · rename_i hf
        subst hf
        cases h
        refine ⟨by show ("InvalidCode" : Str) ∈ errL; decide +kernel, rfl, fun a => ?_⟩
        rw [err_name (st := []) rfl rfl]
        exact err_place rfl (by rw [eif_t' (st' := []) rfl]; exact xf rfl _)
      · cases h
    · cases h
  split at h
  · rename_i hn
    subst hn
    split at h
    · rename_i p
      split at h
      · rename_i hf
        subst hf
        cases h
        refine ⟨by show ("InvalidOperation" : Str) ∈ errL; decide +kernel, rfl, fun a => ?_⟩
        rw [err_name (st := []) rfl rfl]
        exact err_place rfl (by rw [eif_t' (st' := []) rfl]; exact xf rfl _)
      · cases h
    · cases h
  split at h
  · rename_i hn
    subst hn
    split at h
    · rename_i p q
      split at h
      · rename_i hf
        obtain ⟨rfl, rfl⟩ := hf
        cases h
        refine ⟨by show ("SyntaxFault" : Str) ∈ errL; decide +kernel, rfl, fun a => ?_⟩
        rw [err_name (st := []) rfl rfl, guard_t (st' := []) rfl (ret_ok ((args2 (var_val (v := .str "syntax") rfl) ((eif_t' (st' := []) (isSyn (by decide +kernel) (by decide +kernel))).trans ((args2 (xf rfl _) (xf rfl _)).trans (tup2 _ _ _)))).trans (tup2 _ _ _)))]
        simp [deepD]
      · cases h
    · cases h
  split at h
  · rename_i hn
    subst hn
    split at h
    · rename_i p q r
      split at h
      · rename_i hf
        obtain ⟨rfl, rfl, rfl⟩ := hf
        cases h
        refine ⟨by show ("CheckFault" : Str) ∈ errL; decide +kernel, rfl, fun a => ?_⟩
        rw [err_name (st := []) rfl rfl, guard_t (st' := []) rfl (ret_ok ((args2 (var_val (v := .str "check") rfl) ((eif_f' (st' := []) (isSyn (by decide +kernel) (by decide +kernel))).trans ((args3 (xf rfl _) (xf rfl _) (xf rfl _)).trans (tup3 _ _ _ _)))).trans (tup2 _ _ _)))]
        simp [deepD]
      · cases h
    · cases h
  · cases h
end G
namespace G
open PySem L2 Cl
noncomputable def t1_Parser_parse_planM : MT := (tBin (gInB true) (eVar 12) (eVar 11))
noncomputable def e1_Parser_parse_planM : ME := (eVar 12)
noncomputable def e2_Parser_parse_planM : ME := (eChain gLe gLe (eVar 8) (eVar 10) (eVar 9))
noncomputable def e3_Parser_parse_planM : ME := (eArgs (g1 (gAnyAll fun l => l.any id)) (aCons (eLc [8, 9] (iOf (eFld ["Parser"] "pauses" (eVar 0))) (tgTup 2 (tgCons (tgName 8) (tgCons (tgName 9) tgNil))) tTrue e2_Parser_parse_planM) aNil))
noncomputable def c1_Parser_parse_planM : MT := (tBin gNe (eFld ["Token"] "kind" (eMeth ["Parser"] "peek" (gCallO 1 F_Parser_peek []) (eVar 0) aNil)) (eC (.str "end")))
noncomputable def l1_Parser_parse_planM : MS := (sMatch (eFld ["Token"] "text" (eMeth ["Parser"] "peek" (gCallO 1 F_Parser_peek []) (eVar 0) aNil)) (mcVal gEq (eC (.str "start")) (sExpr (eMeth ["Parser"] "parse_start" (gCallO 2 F_Parser_parse_start []) (eVar 0) (aCons (eVar 1) aNil))) (mcVal gEq (eC (.str "pause")) (sExpr (eMeth ["Parser"] "parse_pause" (gCallO 2 F_Parser_parse_pause []) (eVar 0) (aCons (eVar 1) aNil))) (mcVal gEq (eC (.str "rank")) (sExpr (eMeth ["Parser"] "parse_rank" (gCallO 1 F_Parser_parse_rank []) (eVar 0) aNil)) (mcAny (sExpr (eMeth ["Parser"] "fail" (gCallO 1 F_Parser_fail []) (eVar 0) aNil)))))))
noncomputable def b_Parser_parse_planM : MS := (sSeq (sSet 1 (eMeth ["Parser"] "parse_number" (gCallO 3 F_Parser_parse_number []) (eVar 0) (aCons (eC (.str "round")) (aCons (eC (.int 60)) aNil))))
    (sSeq (sSet 2 (eMeth ["Parser"] "parse_number" (gCallO 3 F_Parser_parse_number []) (eVar 0) (aCons (eC (.str "open")) (aCons (eC (.int 9)) aNil))))
    (sSeq (sExpr (eMeth ["Parser"] "parse_valves" (gCallO 1 F_Parser_parse_valves []) (eVar 0) aNil))
    (sSeq (sWhile c1_Parser_parse_planM l1_Parser_parse_planM)
    (sSeq (sIf (tBin gNe (eFld ["Parser"] "faults" (eVar 0)) (eArgs gLst aNil)) (sSeq (sAsg (eArgs (g1 gMinD) (aCons (eFld ["Parser"] "faults" (eVar 0)) aNil)) (tgTup 4 (tgCons (tgName 3) (tgCons (tgName 4) (tgCons (tgName 5) (tgCons (tgName 6) tgNil))))))
    (sRaise "CheckFault" ["reason", "line", "column"] (aCons (eVar 6) (aCons (eVar 3) (aCons (eVar 4) aNil))))) sNext)
    (sSeq (sSet 7 (eLc [10] (iArgs gRange1 (aCons (eVar 1) aNil)) (tgName 10) tTrue e3_Parser_parse_planM))
    (sSeq (sSet 11 (eIf (tBin (gIsN true) (eFld ["Parser"] "ranks" (eVar 0)) (eC .non)) (eFld ["Parser"] "ranks" (eVar 0)) (eArgs gLst aNil)))
    (sSeq (sSet 11 (eBin gAdd (eVar 11) (eLc [12] (iArgs gRange1 (aCons (eArgs (g1 gLen) (aCons (eFld ["Parser"] "names" (eVar 0)) aNil)) aNil)) (tgName 12) t1_Parser_parse_planM e1_Parser_parse_planM)))
    (sSeq (sSet 13 (eSort2 (eFld ["Parser"] "starts" (eVar 0))))
    (sRet (eArgs (gMakeM 7 F_Plan_init []) (aCons (eVar 1) (aCons (eVar 2) (aCons (eArgs (g1 gTuple) (aCons (eFld ["Parser"] "names" (eVar 0)) aNil)) (aCons (eVar 13) (aCons (eVar 7) (aCons (eVar 11) aNil)))))))))))))))))
noncomputable def F_Parser_parse_planM : OF := asC 14 b_Parser_parse_planM
noncomputable def b_loadM : MS := (sRet (eMeth ["Parser"] "parse_plan" (gCallO 1 F_Parser_parse_planM []) (eArgs (gMakeO "Parser" 2 F_Parser_init []) (aCons (eArgs (gCallP 1 F_tokenize []) (aCons (eVar 0) aNil)) aNil)) aNil))
noncomputable def F_loadM : PF := asP 1 b_loadM
noncomputable def b_format_planM : MS := (sRet (eArgs (gCallP 1 F_format_parsed []) (aCons (eArgs (gCallP 1 F_loadM []) (aCons (eVar 0) aNil)) aNil)))
noncomputable def F_format_planM : PF := asP 1 b_format_planM
end G
namespace L2
open PySem PySem.Spec PyProof.Rows
section
variable {X : Cx} {CX : CXT} {k : Nat} {f C : Addr} {fd : FuncData} {ps : List Str} {sp : Sp} {dvs : List V} {ds : List Value} {E : St → XK} {x m : Str} {p pos apos cpos : Pos} {a b e o : Expr} {es : List Expr} {ta tb to te : TE} {t : TA} {T id : String} {name : Str} {r : V → List V → Hp → VK → Prop}
theorem pet_callSD (F : FnOk X.prog X.w X.K X.mg X.base CX k f fd ps sp) (hr : Room k X.A) (hg : Gl X x) (hm : X.mg x = some (.ref f)) (hk : PySem.W.keepIn X.K (.ref f) = true) (hb : Binds X.K fd ps ds) (hd : Vals dvs ds) (hx : ∀ σ, PassesAt CX X σ (E σ))
    (ha : PAT X (e :: es) t) (hdb : (x == ("__debug__" : Str)) = false := by decide) (he : starEach (e :: es) X.env = (false, eval e X.env) :: starEach es X.env := by rfl) (hpl : (backTo pos (starEach es X.env)).any (·.1) = false := by rfl) :
    PET X (.Call (.Name x p) (e :: es) [] pos) (tCallSD sp dvs E t) := by
  intro pins s σ H Q h0 I h
  refine wpAny_Call_Name_kw (ld_glob I hg hm ?_ hdb)
  refine PySem.W.callWith_K (h₀ := X.base) I.ok.mod.kin hk (thn (ha pos pins s σ H _ h0 I h) fun us s1 ⟨vs, H1, I1, r, q⟩ => ⟨I1.kIn, ?_⟩) he hpl
  exact run_fnSD F hr hb hd (hx σ) I1 r q
theorem pst_set {i : Nat} {pos' : Pos} (hN : X.N.Nodup) (hi : X.N[i]? = some x) (hx : Loc X.env.scope x) (he : PET X e te) (hs : swapsWith e (some (.Name x pos')) pos.line X.env = pure false := by rfl) (hf : X.fn x = true ∨ X.env.scope.names.lookup x = some .local := by first | exact .inl rfl | exact .inr rfl | assumption) :
    PST X (.Assign [.Name x pos'] e pos) (tAsg te (gName i)) := by
  intro pins s σ H D h0 I h
  refine wpAny_Assign_Name (thn (he pins s σ H _ h0 I h) fun v s1 ⟨y, H1, I1, r1, q1⟩ => ?_) hs
  exact store_ok I1 hN hi hx r1 (fun s2 I2 => ⟨_, H1, I2, q1⟩) hf
/-- behind the statement a token is out -/
def PS1 (X : Cx) (st : Stmt) (t : TS) : Prop := ∀ (pins : List (Addr × Obj)) (s : Shared) (σ : St) (H : Hp) (D : Ends), Inv X pins σ H s → t D σ H →
  wpAny (model X.prog X.w) X.A (exec st X.env) (fun f s' => 1 ≤ s'.toks ∧ SP X pins D f s') X.xe s
theorem ps1_set {i : Nat} {pos' : Pos} (hN : X.N.Nodup) (hi : X.N[i]? = some x) (hx : Loc X.env.scope x) (he : Cl.PE1 X e te) (hs : swapsWith e (some (.Name x pos')) pos.line X.env = pure false := by rfl) (hf : X.fn x = true ∨ X.env.scope.names.lookup x = some .local := by first | exact .inl rfl | exact .inr rfl | assumption) :
    PS1 X (.Assign [.Name x pos'] e pos) (tAsg te (gName i)) := by
  intro pins s σ H D I h
  refine wpAny_Assign_Name (thn (he pins s σ H _ I h) fun v s1 ⟨hk, y, H1, I1, r1, q1⟩ => ?_) hs
  refine wpAny_mono (PySem.wpAny_toks (store_ok (Q := fun _ s' => SP X pins D .next s') I1 hN hi hx r1 (fun s2 I2 => ⟨_, H1, I2, q1⟩) hf)) (fun _ s2 q => ?_) fun _ _ z => z.2
  exact ⟨Nat.le_trans hk q.1, q.2⟩
theorem pss_1T {st : Stmt} {rest : List Stmt} {u v : TS} (h1 : PS1 X st u) (h2 : PSsT X rest v) : PSs X (st :: rest) (tSeq u v) := by
  refine ⟨fun pins s σ H D I h => ?_⟩
  refine wpAny_execs_cons (thn (h1 pins s σ H { D with nx := v D } I h) fun f s1 q => ?_)
  obtain ⟨hk, q⟩ := q
  cases f with
  | next =>
    obtain ⟨σ', H', I', q⟩ := q
    exact h2 pins s1 σ' H' D hk I' q
  | ret v => exact q
  | brk => exact q
  | cont => exact q
end
end L2
namespace Cl
open PySem L2
abbrev QET (X : Cx) (B : Hp) (W : WX) (e : Expr) (f : ME) : Prop := PET X e (tE X.K X.mg B W f)
abbrev QAT (X : Cx) (B : Hp) (W : WX) (es : List Expr) (f : MA) : Prop := PAT X es (tA X.K X.mg B W f)
abbrev QST (X : Cx) (B : Hp) (W : WX) (st : Stmt) (f : MS) : Prop := PST X st (tS X.K X.mg B W f)
abbrev QSsT (X : Cx) (B : Hp) (W : WX) (st : List Stmt) (f : MS) : Prop := PSsT X st (tS X.K X.mg B W f)
abbrev QS1 (X : Cx) (B : Hp) (W : WX) (st : Stmt) (f : MS) : Prop := PS1 X st (tS X.K X.mg B W f)
section
variable {X : Cx}
theorem PETimp {e : Expr} {t t' : TE} (h : PET X e t) (i : ∀ s H Q, t' s H Q → t s H Q) : PET X e t' := fun pins s σ H Q h0 I q => h pins s σ H Q h0 I (i _ _ _ q)
theorem PATimp {es : List Expr} {t t' : TA} (h : PAT X es t) (i : ∀ s H Q, t' s H Q → t s H Q) : PAT X es t' := fun pos pins s σ H Q h0 I q => h pos pins s σ H Q h0 I (i _ _ _ q)
theorem PSTimp {st : Stmt} {t t' : TS} (h : PST X st t) (i : ∀ s H Q, t' s H Q → t s H Q) : PST X st t' := fun pins s σ H Q h0 I q => h pins s σ H Q h0 I (i _ _ _ q)
theorem PSsTimp {st : List Stmt} {t t' : TS} (h : PSsT X st t) (i : ∀ s H Q, t' s H Q → t s H Q) : PSsT X st t' := fun pins s σ H Q h0 I q => h pins s σ H Q h0 I (i _ _ _ q)
theorem PS1imp {st : Stmt} {t t' : TS} (h : PS1 X st t) (i : ∀ s H Q, t' s H Q → t s H Q) : PS1 X st t' := fun pins s σ H Q I q => h pins s σ H Q I (i _ _ _ q)
theorem PAT.of {es : List Expr} {t : TA} (h : PA X es t) : PAT X es t := fun pos pins s σ H Q _ I q => h.run pos pins s σ H Q I q
end
section
variable {X : Cx} {B : Hp} {W : WX} {o e a b : Expr} {es : List Expr} {f fe fo fA fB : ME} {fs : MA} {x y z name : Str} {T id : String} {r : V → List V → Hp → VK → Prop} {g : S → List S → M S} {apos cpos pos p : Pos} {j j1 j2 k n : Nat} {c1 c2 : Pos}
theorem qet_repl (ho : QE X B W o fo) (hyz : (y == z) = false := by decide +kernel)
    (hst : starEach [.Constant (.str y) j1 c1, .Constant (.str z) j2 c2] X.env = [(false, eval (.Constant (.str y) j1 c1) X.env), (false, eval (.Constant (.str z) j2 c2) X.env)] := by rfl)
    (hbase : attributeBase o "replace" X.env (eval o X.env) = eval o X.env := by rfl) (hline : (apos.endLine == cpos.line) = true := by rfl) :
    QET X B W (.Call (.Attribute o "replace" apos) [.Constant (.str y) j1 c1, .Constant (.str z) j2 c2] [] cpos) (eRepl y z fo) := by
  refine PETimp (CwR.pet_replC ho hyz hst hbase hline) fun s H Q q => one_of q fun F rho sl st H x dx c S' rx h => ?_
  cases rx with
  | obj _ => exact h.elim
  | val rx =>
    cases rx with
    | str x =>
      simp only [gRepl] at h
      split at h
      · rename_i fits
        exact ⟨x, rfl, fits, h.done c _ (.val (.str _))⟩
      · exact h.elim
    | _ => exact h.elim
theorem qat_cons (ha : QET X B W e f) (hr : QAT X B W es fs) (hs : starEach (e :: es) X.env = (false, eval e X.env) :: starEach es X.env := by rfl) : QAT X B W (e :: es) (aCons f fs) := by
  refine PATimp (pat_cons ha hr hs) fun s H Q h => ?_
  obtain ⟨F, rho, sl, st, c, S, h⟩ := h
  refine ⟨F, rho, sl, st, c, S, h.bind.mono (Same.refl _) (Pre.refl _) (fun F1 r1 H1 dx e1 p1 h1 x rx => ?_) fun _ _ _ z => z⟩
  obtain ⟨st1, c1, _, _, h1⟩ := h1
  refine ⟨F1, r1, sl, st1, c1, S.mono e1 p1, h1.bind.mono (Same.refl _) (Pre.refl _) (fun F2 r2 H2 dxs e2 p2 h2 xs rxs => ?_) fun _ _ _ z => z⟩
  obtain ⟨st2, c2, _, _, h2⟩ := h2
  exact h2 F2 r2 H2 (Same.refl _) (Pre.refl _) c2 (x :: xs) (.cons (rx.mono e2 p2) rxs)
theorem qat_cons1 (ha : QET X B W e f) (hr : QA X B W es fs) (hs : starEach (e :: es) X.env = (false, eval e X.env) :: starEach es X.env := by rfl) : QAT X B W (e :: es) (aCons f fs) := qat_cons ha (PAT.of hr) hs
theorem qst_set {i : Nat} {pos' : Pos} (he : QET X B W e fe) (hN : X.N.Nodup) (hi : X.N[i]? = some x := by rfl) (hx : Loc X.env.scope x := by first | exact Or.inl rfl | exact Or.inr rfl) (hs : swapsWith e (some (.Name x pos')) pos.line X.env = pure false := by rfl) (hf : X.fn x = true ∨ X.env.scope.names.lookup x = some .local := by first | exact .inl rfl | exact .inr rfl | assumption) :
    QST X B W (.Assign [.Name x pos'] e pos) (sSet i fe) :=
  PSTimp (pst_set hN hi hx he hs hf) fun N s H h => stm_of h fun F rho sl st H v d c S r p => p.nx c (S.set r i)
theorem qs1_set {i : Nat} {pos' : Pos} (he : PE1 X e (tE X.K X.mg B W fe)) (hN : X.N.Nodup) (hi : X.N[i]? = some x := by rfl) (hx : Loc X.env.scope x := by first | exact Or.inl rfl | exact Or.inr rfl) (hs : swapsWith e (some (.Name x pos')) pos.line X.env = pure false := by rfl) (hf : X.fn x = true ∨ X.env.scope.names.lookup x = some .local := by first | exact .inl rfl | exact .inr rfl | assumption) :
    QS1 X B W (.Assign [.Name x pos'] e pos) (sSet i fe) :=
  PS1imp (ps1_set hN hi hx he hs hf) fun N s H h => stm_of h fun F rho sl st H v d c S r p => p.nx c (S.set r i)
theorem qss_tok {st : Stmt} {rest : List Stmt} {fa fb : MS} (h1 : QS1 X B W st fa) (h2 : QSsT X B W rest fb) : QSs X B W (st :: rest) (sSeq fa fb) :=
  PSsimp (pss_1T h1 h2) fun N s H h => seq_of (fun _ _ z => z) h
theorem qsst_cons {st : Stmt} {rest : List Stmt} {fa fb : MS} (h1 : QST X B W st fa) (h2 : QSsT X B W rest fb) : QSsT X B W (st :: rest) (sSeq fa fb) :=
  PSsTimp (psst_cons h1 h2) fun N s H h => seq_of (fun _ _ z => z) h
theorem qsst_consP {st : Stmt} {rest : List Stmt} {fa fb : MS} (h1 : QS X B W st fa) (h2 : QSsT X B W rest fb) : QSsT X B W (st :: rest) (sSeq fa fb) := qsst_cons (PST.of h1) h2
theorem qsst_consT {st : Stmt} {rest : List Stmt} {fa fb : MS} (h1 : QST X B W st fa) (h2 : QSs X B W rest fb) : QSsT X B W (st :: rest) (sSeq fa fb) := qsst_cons h1 (PSsT.of h2)
end
end Cl
namespace L2H
open PySem PySem.Spec PyProof.Rows L2 HotX ClH
section
variable {X : Cx} {x n : Str} {c : Value} {i : Nat} {body suite : List Stmt} {b₀ : Stmt} {np pos pos' : Pos} {tb : WX → TS} {ts : Addr → Value → Option Addr → TS} {Wout : WX}
theorem pst_try_asT (hs : X.stack = X.env :: X.outer) (hf : X.env.frame = some X.env.locals) (hN : X.N.Nodup) (hi : X.N[i]? = some n) (hln : X.env.kindOf n = some .local) (hc : Names X x c) (tk : L2.Takes X Wout)
    (hb : ∀ (W : WX) (pn : List (Addr × Obj)) (xe : Value → Shared → Prop), L2.Takes (X.tr pn xe) W → PassesOwn (model X.prog X.w) X.A X.env xe → PSsT (X.tr pn xe) body (tb W))
    (hsu : ∀ (a : Addr) (oe : Obj) (cls : Value) (d : Option Addr) (pn : List (Addr × Obj)), Zc cls d oe → (∃ vs, oe.data = .fields vs) → PSs (X.suite a ((a, oe) :: pn)) (b₀ :: suite) (ts a cls d)) :
    PST X (.Try body [.ExceptHandler (some (.Name x np)) (some n) (b₀ :: suite) pos'] [] [] pos) (fun D σ H => tb (wAs X.K c i ts Wout D) D σ H) := by
  intro pins s σ H D h0 I h
  have ok := I.ok
  have hfr : X.A.frames = some (X.env :: X.outer) := by rw [ok.frames, hs]
  have hloc : Loc X.env.scope n := .inl hln
  refine wpAny_Try_except ?_
  refine wpAny_mono ((hb (wAs X.K c i ts Wout D) (X.pn ++ pins) (fun e s₁ => wpAny (model X.prog X.w) X.A (noteFrame e X.env) (fun _ s₂ => wpAny (model X.prog X.w) X.A (setFlight e none) (fun _ s₃ =>
    wpAny (model X.prog X.w) X.A (handleBy e X.env [.ExceptHandler (some (.Name x np)) (some n) (b₀ :: suite) pos']) (SP X pins D) X.xe s₃) X.xe s₂) X.xe s₁) (fun u s' xx => ?_) PassesOwn.looking) [] s σ H D h0 (I.toTry _) h) (fun f s1 hsp => ?_) (fun e s1 he => he)
  · -- the catch
    obtain ⟨a, B, sI, pins', σ', H', cls, d, rfl, J', nb, up, sky, na, os, ag, b, hb1, hyes, hno⟩ := xx
    have J : Inv X pins σ' H' sI := J'.ofTry ok
    have sky' : Sky B (X.env :: X.outer) a (Zc cls d) X.env.locals s'.heap := by rw [← hs]; exact sky
    show wpAny (model X.prog X.w) X.A (noteFrame (.ref a) X.env) _ _ _
    refine Sky.land Zc.steady hfr hf sky' fun h3 fl3 up3 => ?_
    have J3 : Inv X pins σ' H' { s' with heap := h3 } := J.landed nb fl3.1 (up.trans up3) os ag
    obtain ⟨oe3, vs3, he3, hz3, hd3⟩ := fl3.there
    have notFr : ∀ {h : Heap} {o : Obj} {vs : Array Value}, h.FunFrames B (X.env :: X.outer) → h.get? a = some o → o.data = .fields vs → a ∉ frs (X.env :: X.outer) := fun {h o vs} ff e dd hm => by
      obtain ⟨_, o', e', hnf⟩ := ff.mem hm
      rw [e] at e'; cases e'
      exact hnf _ dd
    have nfr := notFr fl3.2.2.1 he3 hd3
    have nL : a ≠ X.env.locals := fun z => nfr (List.mem_filterMap.mpr ⟨X.env, List.mem_cons_self, by rw [hf, z]⟩)
    have nF : a ∉ X.fs := fun hm => by
      obtain ⟨e, he, q⟩ := List.mem_filterMap.mp hm
      exact nfr (List.mem_filterMap.mpr ⟨e, List.mem_cons_of_mem _ he, q⟩)
    have S3 := J3.suite he3 hd3 na nL nF
    refine wpAny_handleBy_cons (codeAny_handlers_test ?_) (by intro q; cases q)
    have LT : PySem.W.Looks (model X.prog X.w) h3 (typeOf (.ref a)) cls := fun A Q E s k q => wpAny_typeOf_ref (k _ _ he3) (by rw [hz3.1]; exact q)
    have LM := PySem.W.exm_one (M := model X.prog X.w) (J3.kIn) LT hb1
    have test : ∀ {Q : Value → Shared → Prop} {E : Value → Shared → Prop}, Q c { s' with heap := h3 } → wpAny (model X.prog X.w) (X.A.mark (some (.ref a))) (eval (.Name x np) X.env) Q E { s' with heap := h3 } := fun {Q E} q => by
      obtain ⟨hg, hdbg, hm | ⟨hm, hv, hnn⟩⟩ := hc
      · exact ld_glob (X := X.suite a ((a, oe3) :: (X.pn ++ pins))) S3 hg hm q hdbg
      · exact ld_blt (X := X.suite a ((a, oe3) :: (X.pn ++ pins))) S3 hg hm hv q hnn hdbg
    refine test (LM.here ?_)
    cases b with
    | true =>
      refine codeAny_handlers_suite_as ?_
      refine HandSPX.lands_againZ fl3 fun h4 fl4 up4 => ?_
      have J4 : Inv X pins σ' H' { s' with heap := h4 } := J.landed nb fl4.1 ((up.trans up3).trans up4) os ag
      obtain ⟨oe4, vs4, he4, hz4, hd4⟩ := fl4.there
      have S4 := J4.suite he4 hd4 na nL nF
      refine store_ok (X := X.suite a ((a, oe4) :: (X.pn ++ pins))) (v := .ref a) S4 hN hi hloc rfl (fun s5 S5 => ?_) (.inr hln)
      refine wpAny_mono ((PSs.nox (X := suiteO X a ((a, oe4) :: (X.pn ++ pins)) n pos' (cameBackBy (model X.prog X.w) X.A X.env X.xe)) (hsu a oe4 cls d (X.pn ++ pins) hz4 ⟨_, hd4⟩)).run [] s5 _ H' _ (suiteO_of S5) (hyes rfl a na)) (fun f s6 hsp => ?_) (fun e6 s6 z => z)
      have end_ : ∀ {σ6 : L2.St} {H6 : Hp} {Q : Shared → Prop}, Inv (suiteO X a ((a, oe4) :: (X.pn ++ pins)) n pos' (cameBackBy (model X.prog X.w) X.A X.env X.xe)) [] σ6 H6 s6 → (∀ s7, Inv X pins (σ6.set i none) H6 s7 → Q s7) →
          wpAny (model X.prog X.w) X.A (do bindName X.env n .none; unbindBehindTheSuite X.env n pos') (fun _ s7 => Q s7) X.xe s6 := fun {σ6 H6 Q} S6 hq => gone_ok (unsuiteO S6 ok) hN hi hln hq
      cases f with
      | next =>
        obtain ⟨σ6, H6, S6, q6⟩ := hsp
        exact end_ S6 fun s7 J7 => ⟨_, _, J7, q6⟩
      | brk =>
        obtain ⟨σ6, H6, S6, q6⟩ := hsp
        exact end_ S6 fun s7 J7 => ⟨_, _, J7, q6⟩
      | cont =>
        obtain ⟨σ6, H6, S6, q6⟩ := hsp
        exact end_ S6 fun s7 J7 => ⟨_, _, J7, q6⟩
      | ret u =>
        obtain ⟨v6, σ6, H6, S6, r6, q6⟩ := hsp
        exact end_ S6 fun s7 J7 => ⟨_, _, _, J7, r6, q6⟩
    | false =>
      show wpAny _ X.A (handleBy (.ref a) X.env []) _ _ _
      refine wpAny_handleBy_nil ?_
      obtain ⟨k1, k2, k3, oe, vs, T, oT, ts', he, hz, hd, h1, hr⟩ := id fl3
      unfold PySem.passOn
      refine wpAny_bind (wpAny_field he hd h1 ?_)
      rw [if_neg (show ¬ ((Value.ref T == Value.none) = true) from by simp)]
      have fin : wpAny (model X.prog X.w) X.A (setFlight (.ref a) X.env.frame) (fun _ s4 => wpAny (model X.prog X.w) X.A (throw (.ref a) : Sem Flow) (SP X pins D) X.xe s4) X.xe { s' with heap := h3 } := by
        rw [hf]
        refine HandSPX.setFlight_upZ fl3 fun h4 hh4 up4 => wpAny_throw (tk _ _ ?_)
        exact ⟨a, B, sI, pins, σ', H', cls, d, rfl, J, nb, (up.trans up3).trans up4, .inr (.inr (by rw [hs]; exact hh4)), na, os, ag, hno rfl⟩
      first
        | exact wpAny_bind (wpAny_pure (wpAny_bind fin))
        | exact wpAny_bind fin
  · cases f with
    | next =>
      obtain ⟨σ', H', J', q⟩ := hsp
      exact wpAny_execs_nil ⟨σ', H', J'.ofTry ok, q⟩
    | brk =>
      obtain ⟨σ', H', J', q⟩ := hsp
      exact ⟨σ', H', J'.ofTry ok, q⟩
    | cont =>
      obtain ⟨σ', H', J', q⟩ := hsp
      exact ⟨σ', H', J'.ofTry ok, q⟩
    | ret u =>
      obtain ⟨v, σ', H', J', r, q⟩ := hsp
      exact ⟨v, σ', H', J'.ofTry ok, r, q⟩
end
end L2H
namespace L2
open PySem PySem.Spec PyProof.Rows
section
variable {X : Cx} {st : Stmt} {t : TS} {e : Expr} {te : TE} {pos : Pos}
theorem psst_one (h1 : PST X st t) : PSsT X [st] t := by
  intro pins s σ H D h0 I h
  refine wpAny_execs_cons (thn (h1 pins s σ H D h0 I h) fun f s1 q => ?_)
  cases f <;> first | exact wpAny_execs_nil q | exact q
theorem pst_expr (he : PET X e te) (hs : swapsWith e none pos.line X.env = pure false := by rfl) : PST X (.Expr e pos) (tDrop te) := by
  intro pins s σ H D h0 I h
  exact wpAny_Expr_any (thn (he pins s σ H _ h0 I h) fun v s1 ⟨x, H1, I1, _, q1⟩ => ⟨σ, H1, I1, q1⟩) I.quiet hs
end
end L2
namespace LamX
open PySem PySem.Spec PyProof.Rows L2
section
variable {X : Cx} {pins : List (Addr × Obj)} {σ : L2.St} {H : Hp} {s : Shared}
/-- the lambda is called, one token out -/
theorem pet_act {CXg : CXT} {Eg : XK} {Ng : List Str} {qg : Str} {sg : Scope} {g f c' : Addr} {cdg pm ctv : Value} {params : Arguments} {body : Expr} {scope : Scope} {k i : Nat} {a : Str} {pn : List (Addr × Obj)} {xe : Value → Shared → Prop} {W : WX} {E : XK} {tb : TE} {p1 p2 : Pos}
    (I : Inv X pins σ H s) (L : LamS X.env.scope scope)
    (hf : s.heap.get? f = some (PySem.W.kla_obj "<lambda>" (X.env.qual ++ "<lambda>") params body scope (cloFrom X.env.cells scope.names []) pm c' ctv)) (hfn : H f = none) (hfr : f ∉ frs X.stack)
    (hbind : bindArgs (PySem.W.kla_fn "<lambda>" (X.env.qual ++ "<lambda>") params body scope (cloFrom X.env.cells scope.names []) pm (.ref c') ctv) ⟨[], []⟩ = pure [])
    (tk : Takes ((cxOf CXg X.prog X.w X.K X.mg X.base Ng qg sg g cdg X.A X.stack s H Eg).tr pn xe) W) (hW : ∀ cls d σ' H', E cls d H' → W cls d σ' H') (hr : Room (k + 1) (X.A.deeper (envOfC qg sg s.heap.objs.size g cdg)))
    (hbody : ∀ (A : Around) (outer : List Env) (s : Shared) (H : Hp), Room k (A.deeper (lamEnv X scope s.heap.objs.size f c')) → PET (lamCx X A outer s H E scope f c') body tb)
    (hN : Ng[i]? = some a) (hv : Vis sg a) (hd : (a == ("__debug__" : Str)) = false := by decide) (hcd : (a == ("__classdict__" : Str)) = false := by decide) :
    PET ((cxOf CXg X.prog X.w X.K X.mg X.base Ng qg sg g cdg X.A X.stack s H Eg).tr pn xe) (.Call (.Name a p1) [] [] p2)
      (fun σZ HZ Q => σZ[i]? = some (some (.ref f)) ∧ HZ c' = some (CodeO c' (X.env.qual ++ "<lambda>")) ∧ tb σ HZ Q) := by
  intro pinsZ sZ σZ HZ Q h0 IZ ⟨hs, hc, ht⟩
  have name := (pe_var (pos := p1) (i := i) hN hv hd hcd).run pinsZ sZ σZ HZ (fun v H1 => v = .ref f ∧ H1 = HZ) IZ ⟨.ref f, hs, rfl, rfl⟩
  refine wpAny_Call_Name_kw (wpAny_mono (PySem.wpAny_toks name) (fun u s1 q0 => ?_) fun _ _ z => z.2)
  obtain ⟨hk, v, H1, I1, r1, ev, eH⟩ := q0
  subst ev
  rw [eH] at I1
  obtain rfl : u = Value.ref f := r1
  have noEx : f ∉ ([] : List Addr) := by simp
  have of1 := I1.base.keep f _ hf hfn hfr noEx
  refine PySem.W.callWith_F0 ⟨_, _, _, _, of1⟩ ?_
  have un : Un (frs X.stack) [] H HZ s.heap s1.heap := I1.base
  obtain ⟨⟨oc, vs, t, hoc, hdc, hvc⟩, _, _⟩ := I1.hok c' _ hc
  let eg := envOfC qg sg s.heap.objs.size g cdg
  have rc : codeAny (model X.prog X.w) (X.A.deeper eg) (.call (.ref f) ⟨[], []⟩) (CR (L2.CX X.prog X.w) (eg :: X.stack) X.prog X.w HZ s1 Q E) s1 := by
    refine PySem.W.kla_callFunE hr.depth of1 rfl L.co L.gen rfl ⟨c', oc, vs, t, rfl, hoc, hdc, hvc⟩ ?_
    rw [hbind]
    refine wpAny_pure (wpAny_newFunctionEnv (fun y hy => (L.own y hy).2) (fun y hy => absurd hy (by simp)) (fun h₁ hns hsb => ⟨I1.nolimit.fresh _ hsb, ?_⟩) L.kind)
    have kp : ∀ b o, s1.heap.get? b = some o → h₁.get? b = some o := fun b o e => hsb.extBut b o (Nat.ne_of_lt (Heap.lt_size e)) (Heap.get?_push_of_some _ e)
    have J := lam_start2 (f := f) (c' := c') (E := E) (scope := scope) (h₁ := h₁) (tk := s1.toks + 0) I L I1.env0 hr.hd un hns kp
    have run := hbody (X.A.deeper eg) (eg :: X.stack) s1 HZ (hr.deeper _) [] { s1 with heap := h₁, toks := s1.toks + 0 } σ HZ Q (show 1 ≤ s1.toks + 0 from Nat.le_trans h0 hk) J ht
    refine PySem.W.kla_codeExpr (wpAny_mono run (fun v s' hq => ?_) fun e s' hq => hq)
    obtain ⟨w', H', J', rv, q⟩ := hq
    exact ⟨w', H', J'.os, J'.bare, J'.base, J'.hok, rv, q⟩
  have hx : Passes (L2.CX X.prog X.w) ((cxOf CXg X.prog X.w X.K X.mg X.base Ng qg sg g cdg X.A X.stack s H Eg).tr pn xe) E := passes_call tk hW
  refine wpAny_call (codeAny_mono rc fun r s' hq => ?_)
  match r, hq with
  | .error e, hq => exact hx pinsZ σZ HZ s1 e s' I1 hq
  | .ok (.ret u), hq => exact I1.after hq
  | .ok .next, hq => exact False.elim hq
  | .ok .brk, hq => exact False.elim hq
  | .ok .cont, hq => exact False.elim hq
end
end LamX
namespace LamX
open PySem PySem.Spec PyProof.Rows L2
/-- a def's body is run, one token out -/
theorem run_ofT {CX : CXT} {P : Program} {w : World} {K : PySem.W.Frag} {mg : Str → Option Value} {base : Heap} {k : Nat} {f : Addr} {name qual : Str} {params : Arguments} {body : List Stmt} {scope : Scope} {dV kV doc pm cdv ct oc : Value} {an od : Option Addr}
    {osl : Array (Option Value)} {N ps : List Str} (lk : K.lookup f = some ⟨oc, od, .func (PySem.W.fnOf name qual params body scope dV kV doc pm an cdv ct), osl⟩) (hcd : PySem.W.codeIn K cdv qual = true) (S : FnScope N ps scope)
    {A : Around} {outer : List Env} {s : Shared} {H : Hp} {args : Args} {us : List Value} {vs : List V} {Q : VK} {E : XK} (hr : Room (k + 1) A) (e0 : Env0 P w K mg base A outer s H) (h0 : 1 ≤ s.toks)
    (hb : BindsTo s (PySem.W.fnOf name qual params body scope dV kV doc pm an cdv ct) args (ps.zip us)) (r : Vals vs us) (hl : vs.length = ps.length)
    (hbody : Room k (A.deeper (envOfC qual scope s.heap.objs.size f cdv)) → ∃ t, PSsT (cxOf CX P w K mg base N qual scope f cdv A outer s H E) body t ∧ t { nx := fun _ H' => Q .non H', rt := Q } (L2.start N vs) H) :
    codeAny (model P w) A (.call (.ref f) args) (CR CX outer P w H s Q E) s := by
  have old : ∀ b o, base.get? b = some o → s.heap.get? b = some o := fun b o e => (e0.bs b o e).1
  have KX : K.In s.heap := e0.mod.kin.keeps old
  have lim : s.heap.NoLimit := e0.mod.nolimit.keeps old
  have hkind : ∀ y ∈ ps.zip us, scope.names.lookup y.1 = some .local ∨ (scope.names.lookup y.1 = some .cell ∧ ((cellsFrom (s.heap.objs.size + 1) scope.names []).lookup y.1).isSome = true) := by
    intro y hy
    refine (S.par y.1 (List.of_mem_zip (show (y.1, y.2) ∈ ps.zip us from hy)).1).imp id fun q => ⟨q, PySem.W.cellsFrom_some _ _ _ (.inl q)⟩
  refine codeAny_call_function hr.depth (KX _ _ lk) rfl S.co S.gen rfl (PySem.W.codeRec_of KX hcd) (hb _ _ _ _ ?_)
  refine wpAny_mono (PySem.wpAny_toks (wpAny_newFunctionEnv_cells (Q := fun env s1 => env = envOfC qual scope s.heap.objs.size f cdv ∧ InCallC s env.locals (bindL env.kindOf (ps.zip us) fun _ => none) env.cells (bindC env.kindOf (ps.zip us) fun _ => none) s1) S.kind hkind fun env he s1 x => ⟨he, x⟩)) (fun env s1 q => ?_) fun _ _ z => z.2
  obtain ⟨hk, he, x⟩ := q
  subst he
  refine ⟨lim.keeps x.toInCall.keep, codeAny_func ?_⟩
  obtain ⟨t, ht, hq⟩ := hbody (hr.deeper _)
  have I := inv_start (CX := CX) (E := E) S hr.hd e0 hl r x
  have h1 : 1 ≤ s1.toks := Nat.le_trans h0 hk
  refine wpAny_mono (ht [] s1 (L2.start N vs) H _ h1 I hq) (fun fl s' hs => ?_) fun e s' hs => hs
  match fl, hs with
  | .ret u, ⟨v, σ', H', J, rv, q⟩ => exact ⟨v, H', J.os, J.bare, J.base, J.hok, rv, q⟩
  | .next, ⟨σ', H', J, q⟩ => exact ⟨V.non, H', J.os, J.bare, J.base, J.hok, rfl, q⟩
  | .brk, ⟨_, _, _, q⟩ => exact False.elim q
  | .cont, ⟨_, _, _, q⟩ => exact False.elim q
end LamX
namespace L2
open PySem PySem.Spec PyProof.Rows
theorem PSsT_nox {X : Cx} {st : List Stmt} {t : TS} (h : PSsT X.nox st t) : PSsT X st t := fun pins s σ H D h0 I hw =>
  wpAny_mono (h pins s σ H D h0 (I.wish _) hw) (fun _ _ q => q.unwish) fun _ _ z => False.elim z
end L2
namespace Cl
open PySem L2
section
variable {X : Cx} {pins : List (Addr × Obj)} {σ : L2.St} {H : Hp} {s : Shared}
theorem lam_newT {c P : Addr} {params : Arguments} {body : Expr} {scope : Scope} {pos : Pos} {E : Value → Shared → Prop} {Q : Value → Shared → Prop} (h0 : 1 ≤ s.toks) (I : Inv X pins σ H s) (TB : LamX.TabB X.base X.mg c P) (hcode : X.env.code = .ref c)
    (hT : LamX.TabS H P (X.env.qual ++ "<lambda>")) (hdef : defaultsOf params X.env = ([], [])) (hfree : ∀ y ∈ scope.names, y.2 = .free → ∃ c, X.env.cells.lookup y.1 = some c)
    (h : ∀ (f c' : Addr) (pm ctv : Value) (H1 : Hp) (s' : Shared), 1 ≤ s'.toks → Inv X pins σ H1 s' → (∀ b o, b ≠ P → H b = some o → H1 b = some o) → LamX.TabS H1 P (X.env.qual ++ "<lambda>") →
      s'.heap.get? f = some (PySem.W.kla_obj "<lambda>" (X.env.qual ++ "<lambda>") params body scope (cloFrom X.env.cells scope.names []) pm c' ctv) → H1 f = none → f ∉ frs X.stack → H1 c' = some (LamX.CodeO c' (X.env.qual ++ "<lambda>")) → Q (.ref f) s') :
    wpAny (model X.prog X.w) X.A (eval (.Lambda params body scope pos) X.env) Q E s := by
  refine wpAny_mono (PySem.wpAny_toks (lam_new2 (Q := fun v s' => ∃ (f c' : Addr) (pm ctv : Value) (H1 : Hp), v = .ref f ∧ Inv X pins σ H1 s' ∧ (∀ b o, b ≠ P → H b = some o → H1 b = some o) ∧ LamX.TabS H1 P (X.env.qual ++ "<lambda>") ∧
    s'.heap.get? f = some (PySem.W.kla_obj "<lambda>" (X.env.qual ++ "<lambda>") params body scope (cloFrom X.env.cells scope.names []) pm c' ctv) ∧ H1 f = none ∧ f ∉ frs X.stack ∧ H1 c' = some (LamX.CodeO c' (X.env.qual ++ "<lambda>"))) I TB hcode hT hdef hfree
      fun f c' pm ctv H1 s' a1 a2 a3 a4 a5 a6 a7 => ⟨f, c', pm, ctv, H1, rfl, a1, a2, a3, a4, a5, a6, a7⟩)) (fun v s' q => ?_) fun _ _ z => z.2
  obtain ⟨hk, f, c', pm, ctv, H1, e, a1, a2, a3, a4, a5, a6, a7⟩ := q
  subst e
  exact h f c' pm ctv H1 s' (Nat.le_trans h0 hk) a1 a2 a3 a4 a5 a6 a7
end
def GivesT (X : Cx) (k : Nat) (Ng : List Str) (x : Str) (sg : Scope) (g : Addr) (cdg : Value) (bg : List Stmt) (a : Str) (q : Str) (TT : (XK → Hp → VK → Prop) → Hp → VK → Prop) : Prop :=
  ∀ (f c' : Addr) (s : Shared) (H : Hp) (Q : VK) (tl : XK → Hp → VK → Prop), Room k (X.A.deeper (PyProof.Rows.envOfC x sg s.heap.objs.size g cdg)) →
    (∀ (W : WX) (pn : List (Addr × Obj)) (xe : Value → Shared → Prop) (E : XK) (p1 p2 : Pos), L2.Takes ((cxOf C8.CX0 X.prog X.w X.K X.mg X.base Ng x sg g cdg X.A X.stack s H C8.E0).tr pn xe) W → (∀ cls d σ' H', E cls d H' → W cls d σ' H') →
      PET ((cxOf C8.CX0 X.prog X.w X.K X.mg X.base Ng x sg g cdg X.A X.stack s H C8.E0).tr pn xe) (.Call (.Name a p1) [] [] p2) (fun σZ HZ Q => σZ[0]? = some (some (.ref f)) ∧ HZ c' = some (LamX.CodeO c' q) ∧ tl E HZ Q)) →
    H c' = some (LamX.CodeO c' q) → TT tl H Q →
    ∃ t, PSsT (cxOf C8.CX0 X.prog X.w X.K X.mg X.base Ng x sg g cdg X.A X.stack s H C8.E0).nox bg t ∧ t { nx := fun _ H' => Q .non H', rt := Q } (L2.start Ng [.ref f]) H
section
variable {X : Cx} {B : Hp} {told : XD → Option D} {errs : List Str} {bS : Addr → XD → MS}
theorem gives_errT {k : Nat} {Ng : List Str} {x a ge en q : Str} {sg : Scope} {g G : Addr} {cdg : Value} {suite : List Stmt} {b₀ : Stmt} {j2 : Nat} {p1 p2 p3 np pos pos' r1 r2 : Pos} (hN : Ng.Nodup) (h0 : Ng[0]? = some a) (h1 : Ng[1]? = some en) (hl : sg.names.lookup en = some .local)
    (hge : sg.names.lookup ge = some .globalImplicit) (hme : X.mg ge = some (.ref G)) (hex : ∀ n ∈ errs, ∀ C, X.mg n = some (.ref C) → PySem.W.exmOne X.K (.ref C) (.ref G) = some true)
    (ht : ∀ z dd, told z = some dd → z.n ∈ errs ∧ (z.fs.all fun p => isSc p.2) = true ∧ ∀ a, exitT (bS a z (slE Ng.length a) []) = some dd)
    (hS : ∀ (s : Shared) (H : Hp) (a : Addr) (oe : Obj) (cls : Value) (d : Option Addr) (pn : List (Addr × Obj)) (B' : Hp) (z : XD), Room k (X.A.deeper (PyProof.Rows.envOfC x sg s.heap.objs.size g cdg)) → z.n ∈ errs → Zc cls d oe → (∃ vs, oe.data = .fields vs) → ErrIn X.K X.mg B' cls d z →
      QSs ((cxOf C8.CX0 X.prog X.w X.K X.mg X.base Ng x sg g cdg X.A X.stack s H C8.E0).nox.suite a ((a, oe) :: pn)) B' (fun _ _ _ _ => False) (b₀ :: suite) (bS a z))
    (hde : (ge == ("__debug__" : Str)) = false := by decide) :
    GivesT X k Ng x sg g cdg [.Try [.Expr (.Call (.Name a p1) [] [] p2) p3] [.ExceptHandler (some (.Name ge np)) (some en) (b₀ :: suite) pos'] [] [] pos, .Return (some (.Constant .none j2 r1)) r2] a q (TErr X.K X.mg B told) := by
  intro f c' s H Q tl hr act hc h
  have hgl : Gl (cxOf C8.CX0 X.prog X.w X.K X.mg X.base Ng x sg g cdg X.A X.stack s H C8.E0).nox ge := hge
  have hlen : 0 < Ng.length := (List.getElem?_eq_some_iff.mp h0).1
  have len0 : (L2.start Ng [V.ref f]).length = Ng.length := by
    unfold L2.start; simp; omega
  have z0 : (L2.start Ng [V.ref f])[0]? = some (some (V.ref f)) := by
    unfold L2.start; simp
  refine ⟨_, (psst_cons (L2H.pst_try_asT (X := (cxOf C8.CX0 X.prog X.w X.K X.mg X.base Ng x sg g cdg X.A X.stack s H C8.E0).nox) (i := 1) (c := .ref G)
      (tb := fun W D σ H => ∃ Ech : XK, (∀ cls d σ' H', σ'.length = Ng.length → Ech cls d H' → W cls d σ' H') ∧ σ[0]? = some (some (.ref f)) ∧ H c' = some (LamX.CodeO c' q) ∧ tl Ech H fun _ H' => D.nx σ H')
      (ts := fun a cls d D σ H => ∃ (B' : Hp) (z : XD), z.n ∈ errs ∧ ErrIn X.K X.mg B' cls d z ∧ tS X.K X.mg B' (fun _ _ _ _ => False) (bS a z) D σ H) (Wout := fun _ _ _ _ => False)
      rfl rfl hN h1 hl ⟨hgl, hde, .inl hme⟩ LamX.takes0 (fun W pn xe tk _ => ?_) (fun a oe cls d pn hz hf => ⟨fun pins s' σ H' D I ⟨B', z, hz', hE, h'⟩ => (hS s H a oe cls d pn B' z hr hz' hz hf hE).run pins s' σ H' D I h'⟩)) (PSsT.of (pss_one (ps_ret pe_non)))), ?_⟩
  · intro pins s' σ H' D h0' I h'
    obtain ⟨Ech, hW, h1, h2, h3⟩ := h'
    have hp := act (fun cls d σ H => Ech cls d H) pn xe Ech p1 p2 (takes_len tk hW) fun _ _ _ _ z => z
    exact (psst_one (pst_expr (pos := p3) hp)) pins s' σ H' D h0' I ⟨h1, h2, h3⟩
  · refine ⟨_, fun cls d σ' H' hlσ hE => ?_, z0, hc, h⟩
    obtain ⟨F, rho, st, z, dd, co, xr, hz, hq⟩ := hE
    obtain ⟨hn, hsc, hx⟩ := ht z dd hz
    obtain ⟨C, hC, rfl, hfs⟩ := xr
    refine ⟨true, hex _ hn C hC, fun _ a na => ?_, fun z => by cases z⟩
    have cs : Core X.K X.mg (less X.K H' fun _ => none) (fun _ => none) [] [] H' := Core.start (fun _ _ z => by cases z) fun P q i => ⟨rfl, (co.tabs P q i).2.2⟩
    refine ⟨less X.K H' fun _ => none, z, hn, ⟨⟨C, hC, rfl⟩, ?_⟩, fun _ => none, [], slE Ng.length a, [], cs, slE_ok hlσ a, ?_⟩
    · match e : z.fs, hfs, hsc with
      | [], hfs, _ => exact .inl ⟨rfl, hfs⟩
      | y :: ys, ⟨da, fvs, h1, h2, h3⟩, hsc =>
        refine .inr ⟨da, fvs, h1, ?_, fun F' => h3.sc hsc⟩
        have hH := co.same _ _ h2
        unfold less
        rw [if_pos ⟨rfl, fun ⟨q, i⟩ => by rw [(co.tabs _ _ i).2.1] at h2; cases h2⟩]
        exact hH
    · have hxa := hx a
      unfold exitT at hxa
      match e : bS a z (slE Ng.length a) [], hxa with
      | some (.rt s, sl', st'), hxa =>
        intro F' rho' H'' s' _ _ c1 _ v rv
        obtain ⟨F2, h1, h2, h3⟩ := co.back c1 rv hxa
        exact hq F2 rho H'' v h1 (Pre.refl _) h2 h3
end
section
variable {X : Cx} {B : Hp} {W : WX}
theorem qet_err {told : XD → Option D} {x a : Str} {g c P : Addr} {k : Nat} {pg : Arguments} {bg : List Stmt} {sg : Scope} {dV kV doc pm cdv ct oc : Value} {an od : Option Addr} {osl : Array (Option Value)} {Ng : List Str}
    {params : Arguments} {body : Expr} {scope : Scope} {fb : ME} {p lpos pos : Pos} (hg : Gl X x) (hm : X.mg x = some (.ref g)) (hk : PySem.W.keepIn X.K (.ref g) = true)
    (lk : X.K.lookup g = some ⟨oc, od, .func (PySem.W.fnOf x x pg bg sg dV kV doc pm an cdv ct), osl⟩) (hcg : PySem.W.codeIn X.K cdv x = true) (hb : L2.Binds X.K (PySem.W.fnOf x x pg bg sg dV kV doc pm an cdv ct) [a] []) (Sg : FnScope Ng [a] sg) (hNg : Ng[0]? = some a) (hva : Vis sg a)
    (hG : GivesT X (k + 1) Ng x sg g cdv bg a (X.env.qual ++ "<lambda>") (TErr X.K X.mg B told))
    (TB : LamX.TabB X.base X.mg c P) (it : IsTab X.K P (X.env.qual ++ "<lambda>")) (hcode : X.env.code = .ref c) (hr : Room (k + 2) X.A) (L : LamX.LamS X.env.scope scope) (hdef : defaultsOf params X.env = ([], []))
    (hbind : ∀ (q : Str) (cl : List (Str × Addr)) (pm cv ctv : Value), bindArgs (PySem.W.kla_fn "<lambda>" q params body scope cl pm cv ctv) ⟨[], []⟩ = pure [])
    (hbody : ∀ (A : Around) (outer : List Env) (s : Shared) (H : Hp) (E : XK) (f c' : Addr), Room k (A.deeper (LamX.lamEnv X scope s.heap.objs.size f c')) → QET (LamX.lamCx X A outer s H E scope f c') B (fun cls d _ H => E cls d H) body fb)
    (hdb : (x == ("__debug__" : Str)) = false := by decide) (hd : (a == ("__debug__" : Str)) = false := by decide) (hcd : (a == ("__classdict__" : Str)) = false := by decide) :
    QET X B W (.Call (.Name x p) [.Lambda params body scope lpos] [] pos) (eErr told fb) := by
  intro pins s σ H Q h0 I h
  obtain ⟨F, rho, sl, st, co, S', h⟩ := h
  have hT := (co.tabs P _ it).2.2
  refine wpAny_Call_Name_kw (ld_glob I hg hm ?_ hdb)
  refine PySem.W.callWith_K (h₀ := X.base) I.ok.mod.kin hk ?_ (by rfl) (by rfl)
  show wpAny _ _ (spliced ((false, eval (.Lambda params body scope lpos) X.env) :: backTo pos (starEach [] X.env))) _ _ s
  refine Calls.spliced_cons (lam_newT h0 I TB hcode hT hdef (L.has I.ok) fun f c' pm' ctv H1 s' ht0 I1 k1 T1 hf hfn hfr hco => ?_)
  have c1 : Core X.K X.mg B F rho st H1 := co.lam it k1 T1
  refine Calls.spliced_nil ⟨I1.kIn, ?_⟩
  have hq : TErr X.K X.mg B told (fun E H' Q' => tE X.K X.mg B (fun cls d _ H => E cls d H) fb σ H' Q') H1 Q := by
    refine ⟨F, rho, sl, st, c1, S', ?_⟩
    unfold eErr at h
    match q : fb sl st with
    | none => rw [q] at h; exact h.elim
    | some (.ok d, st') =>
      rw [q] at h
      exact fun F' rho' H' e1 p1 c2 v rv => h F' rho' H' e1 p1 c2 .non (.val .non)
    | some (.error z, st') =>
      rw [q] at h
      dsimp only at h
      match q2 : told z with
      | none => rw [q2] at h; exact h.elim
      | some dd =>
        rw [q2] at h
        exact fun F' rho' H' e1 p1 c2 cls d xr => ⟨F', rho', st', z, dd, c2, xr, q2, fun F2 rho2 H2 v e2 p2 c3 rv => h F2 rho2 H2 (e1.trans e2) (p1.trans p2) c3 v (.val rv)⟩
  have rc : codeAny (model X.prog X.w) X.A (.call (.ref g) ⟨[.ref f], []⟩) (CR C8.CX0 X.stack X.prog X.w H1 s' Q C8.E0) s' := by
    refine LamX.run_ofT (N := Ng) (ps := [a]) (us := [.ref f]) (vs := [.ref f]) lk hcg Sg hr I1.env0 ht0 (hb s' [.ref f] I1.kIn rfl) (.cons rfl .nil) rfl fun hr' => ?_
    obtain ⟨t', ht', hq'⟩ := hG f c' s' H1 Q (fun E H' Q' => tE X.K X.mg B (fun cls d _ H => E cls d H) fb σ H' Q') hr' (fun W pn xe E p1 p2 tk hW => LamX.pet_act (i := 0) I1 L hf hfn hfr (hbind _ _ _ _ _) tk hW hr' (fun A outer s H hr2 => hbody A outer s H E f c' hr2) hNg hva hd hcd) hco hq
    exact ⟨t', PSsT_nox ht', hq'⟩
  refine wpAny_call (codeAny_mono rc fun r s2 hq => ?_)
  cases r with
  | error e => exact (show False from hq).elim
  | ok fl =>
    cases fl with
    | ret u => exact I1.after hq
    | next => exact False.elim hq
    | brk => exact False.elim hq
    | cont => exact False.elim hq
end
def ErrOfTOk (P : Program) (w : World) (K : PySem.W.Frag) (mg : Str → Option Value) (base : Heap) (x : Str) (told : XD → Option D) : Prop :=
  ∃ (a : Str) (g : Addr) (pg : Arguments) (bg : List Stmt) (sg : Scope) (dV kV doc pm cdv ct oc : Value) (an od : Option Addr) (osl : Array (Option Value)) (Ng : List Str), mg x = some (.ref g) ∧ PySem.W.keepIn K (.ref g) = true ∧
    K.lookup g = some ⟨oc, od, .func (PySem.W.fnOf x x pg bg sg dV kV doc pm an cdv ct), osl⟩ ∧ PySem.W.codeIn K cdv x = true ∧ L2.Binds K (PySem.W.fnOf x x pg bg sg dV kV doc pm an cdv ct) [a] [] ∧ FnScope Ng [a] sg ∧ Ng[0]? = some a ∧ Vis sg a ∧
    (a == ("__debug__" : Str)) = false ∧ (a == ("__classdict__" : Str)) = false ∧
    ∀ (X : Cx) (B : Hp) (q : Str) (k : Nat), X.prog = P → X.w = w → X.K = K → X.mg = mg → X.base = base → GivesT X k Ng x sg g cdv bg a q (TErr K mg B told)
section
variable {X : Cx} {B : Hp} {W : WX}
theorem qet_errOf {told : XD → Option D} {x : Str} {c P : Addr} {k : Nat} {params : Arguments} {body : Expr} {scope : Scope} {fb : ME} {p lpos pos : Pos} (h : ErrOfTOk X.prog X.w X.K X.mg X.base x told)
    (TB : LamX.TabB X.base X.mg c P) (hcode : X.env.code = .ref c) (it : IsTab X.K P (X.env.qual ++ "<lambda>")) (hr : Room (k + 2) X.A) (L : LamX.LamS X.env.scope scope)
    (hbody : ∀ (A : Around) (outer : List Env) (s : Shared) (H : Hp) (E : XK) (f c' : Addr), Room k (A.deeper (LamX.lamEnv X scope s.heap.objs.size f c')) → QET (LamX.lamCx X A outer s H E scope f c') B (fun cls d _ H => E cls d H) body fb)
    (hg : Gl X x := by rfl) (hdef : defaultsOf params X.env = ([], []) := by rfl)
    (hbind : ∀ (q : Str) (cl : List (Str × Addr)) (pm cv ctv : Value), bindArgs (PySem.W.kla_fn "<lambda>" q params body scope cl pm cv ctv) ⟨[], []⟩ = pure [] := by intros; rfl)
    (hdb : (x == ("__debug__" : Str)) = false := by decide) :
    QET X B W (.Call (.Name x p) [.Lambda params body scope lpos] [] pos) (eErr told fb) := by
  obtain ⟨a, g, pg, bg, sg, dV, kV, doc, pm, cdv, ct, oc, an, od, osl, Ng, hm, hk, lk, hcg, hb, Sg, hNg, hva, hd, hcd, hG⟩ := h
  exact qet_err hg hm hk lk hcg hb Sg hNg hva (hG X B _ _ rfl rfl rfl rfl rfl) TB it hcode hr L hdef hbind hbody hdb hd hcd
end
end Cl
namespace Cl
open PySem L2
def repS (a : Str) (n : Nat) : Str := ⟨(List.replicate n a.cps).foldl (· ++ ·) #[]⟩
theorem rep_size (c : Array Nat) : ∀ (n : Nat) (acc : Array Nat), ((List.replicate n c).foldl (· ++ ·) acc).size = acc.size + n * c.size
  | 0, acc => by simp
  | n + 1, acc => by
    rw [List.replicate_succ, List.foldl_cons, rep_size c n, Array.size_append, Nat.add_mul, Nat.one_mul]
    omega
def rMulS : R2 := fun x y H Q => ∃ (a : Str) (n : Nat), x = .str a ∧ y = .int (n : Int) ∧ 2 ≤ n ∧ n ≤ 1000 ∧ 1 ≤ a.length ∧ a.length * n ≤ sizeLine ∧ Q (.str (repS a n)) H
theorem op_mulS {X : Cx} : OpR X (binaryOp .Mult) rMulS := by
  intro pins s σ H x y v u Q I rx ry h
  obtain ⟨a, n, rfl, rfl, h2, h3, h1, hz, q⟩ := h
  obtain ⟨t, rfl⟩ := rx
  obtain ⟨t', rfl⟩ := ry
  have hs : sizeLine = 16777216 := sizeLine_eq
  have b1 : ¬ ((n : Int) < 1) := by omega
  have b2 : (((n : Int) == 1) || a.length == 0) = false := by
    rw [Bool.or_eq_false_iff]
    exact ⟨by simp; omega, by simp; omega⟩
  have b3 : ((n : Int)).toNat = n := Int.toNat_natCast n
  refine P.mul_str (by rw [decide_eq_false (by omega), decide_eq_false (by omega)]; rfl) (fun _ _ => ?_) (fun _ _ => ?_) ?_
  · have hz' : ((a.length : Int)) * (n : Int) ≤ 2 ^ 63 - 1 := by
      have : ((a.length * n : Nat) : Int) ≤ 16777216 := by omega
      rw [Int.natCast_mul] at this
      omega
    have := (Int.le_ediv_iff_mul_le (show (0 : Int) < n by omega)).mpr hz'
    omega
  · rw [b3]
    simp only [Builtin.Str.tooLong, decide_eq_false_iff_not]
    omega
  · rw [if_neg b1, if_neg (by rw [b2]; decide), b3]
    refine ⟨?_, .str (repS a n), H, I.tok _, ⟨_, rfl⟩, q⟩
    show ((List.replicate n a.cps).foldl (· ++ ·) #[]).size ≤ sizeLine
    rw [rep_size]
    have : a.cps.size = a.length := rfl
    rw [this, Nat.mul_comm]
    simpa using hz
section
variable {K : PySem.W.Frag} {mg : Str → Option Value}
def gMulS (x y : S) : M S := fun st => match x, y with
  | .val (.str a), .val (.int n) => if 2 ≤ n ∧ n ≤ 1000 ∧ 1 ≤ a.length ∧ a.length * n.toNat ≤ sizeLine then ok1 (.str (repS a n.toNat)) st else none
  | _, _ => none
theorem os_mulS : OpS K mg rMulS gMulS := by
  intro W B F rho st H x y dx dy Q c rx ry h
  unfold gMulS at h
  split at h
  · rename_i a n
    cases rx with
    | val rx =>
      cases rx
      cases ry with
      | val ry =>
        cases ry
        split at h
        · rename_i hc
          obtain ⟨h1, h2, h3, h4⟩ := hc
          refine ⟨a, n.toNat, rfl, ?_, by omega, by omega, h3, h4, h.done c _ (.val (.str _))⟩
          rw [Int.toNat_of_nonneg (by omega)]
        · exact h.elim
  · exact h.elim
end
end Cl
namespace L2
open PySem PySem.Spec PyProof.Rows
section
variable {X : Cx} {e hi o : Expr} {te to : TE} {th : TO} {t : TA} {pos p2 apos cpos : Pos} {T id name : String} {y : Str} {j : Nat} {cp : Pos}
/-- arguments that begin with a written text -/
def PA1 (X : Cx) (es : List Expr) (t : TA) : Prop := ∀ (pos : Pos) (pins : List (Addr × Obj)) (s : Shared) (σ : St) (H : Hp) (Q : List V → Hp → Prop), Inv X pins σ H s → t σ H Q →
  wpAny (model X.prog X.w) X.A (spliced (backTo pos (starEach es X.env))) (fun us s' => 1 ≤ s'.toks ∧ AP X pins σ Q us s') X.xe s
theorem pa1_str {es : List Expr} {tr : TA} (hr : PA X es tr) (hs : starEach (.Constant (.str y) j cp :: es) X.env = (false, eval (.Constant (.str y) j cp) X.env) :: starEach es X.env := by rfl) : PA1 X (.Constant (.str y) j cp :: es) (tCons (tC (.str y)) tr) := by
  intro pos pins s σ H Q I h
  rw [hs]
  show wpAny _ _ (spliced ((false, eval (.Constant (.str y) j cp) X.env) :: backTo pos (starEach es X.env))) _ _ s
  refine Calls.spliced_cons (Calls.Constant_str ?_)
  refine wpAny_mono (PySem.wpAny_toks (hr.run pos pins _ σ H _ (I.tok (s.toks + 1)) h)) (fun us s1 q => ?_) fun _ _ z => z.2
  obtain ⟨hk, xs, H1, I1, r1, q1⟩ := q
  exact ⟨Nat.le_trans (Nat.le_add_left 1 _) hk, .str y :: xs, H1, I1, .cons ⟨_, rfl⟩ r1, q1⟩
theorem pe1_bmA {name : Str} {e : Expr} {es : List Expr} {r : V → List V → Hp → VK → Prop} (pa : PlainAttrs T) (slot : Slot T name id) (hty : typeOf (.builtin id) = pure (.type "method_descriptor")) (hm : MtR X id r) (ho : PE X o to) (ha : PA1 X (e :: es) t)
    (hbase : attributeBase o name X.env (eval o X.env) = eval o X.env)
    (hfew : ((backTo cpos (starEach (e :: es) X.env)).all (fun x => !x.1) && (backToKw cpos (keywordEach [] X.env)).all (fun x => x.1.isSome) && decide ((e :: es).length + ([] : List Keyword).length + (if ([] : List Keyword).isEmpty then 0 else 1) < 30)) = true)
    (hline : (apos.endLine == cpos.line) = true) (hs : starEach (e :: es) X.env = (false, eval e X.env) :: starEach es X.env) (hplain : (backTo cpos (starEach es X.env)).any (·.1) = false) :
    Cl.PE1 X (.Call (.Attribute o name apos) (e :: es) [] cpos) (tBM X.K T r to t) := by
  intro pins s σ H Q I h
  refine wpAny_Call_method_late hbase hfew hline rfl (thn (ho.run pins s σ H _ I h) fun v s1 q0 => ?_)
  obtain ⟨x, H1, I1, r1, ty, q1⟩ := q0
  have k := tyV_is I1 r1 ty
  refine ⟨T, id, pa, slot, hty, k.1, k.2, ?_⟩
  have hA := ha cpos pins s1 σ H1 _ I1 q1
  rw [hs] at hA ⊢
  have none1 : ((false, eval e X.env) :: backTo cpos (starEach es X.env)).any (·.1) = false := hplain
  refine Calls.callWith_builtin none1 (Calls.evalArgs_plain (thn hA ?_))
  rintro us s2 ⟨h1, vs, H2, I2, r2, q2⟩
  refine wpAny_mono (PySem.wpAny_toks (hm pins s2 σ H2 x vs v us Q I2 r1 r2 q2)) ?_ fun _ _ q => q.2
  rintro u s3 ⟨more, q3⟩
  exact ⟨Nat.le_trans h1 more, q3⟩
/-- a bound of a slice behind which a token is out -/
def PO1 (X : Cx) (a : Option Expr) (t : TO) : Prop := ∀ (pins : List (Addr × Obj)) (s : Shared) (σ : St) (H : Hp) (Q : Option Int → Hp → Prop), Inv X pins σ H s → t σ H Q →
  wpAny (model X.prog X.w) X.A (evalPart a X.env) (fun u s' => 1 ≤ s'.toks ∧ ∃ i H', Inv X pins σ H' s' ∧ IsPart u i ∧ Q i H') X.xe s
theorem po1_some (h : Cl.PE1 X e te) : PO1 X (some e) (tPart te) := by
  intro pins s σ H Q I hw
  rw [evalPart_some]
  refine thn (h pins s σ H _ I hw) fun u s1 q0 => ?_
  obtain ⟨hk, x, H1, I1, r1, i, e1, q⟩ := q0
  subst e1
  obtain ⟨t, e2⟩ := r1
  subst e2
  exact ⟨hk, some i, H1, I1, .int i t, q⟩
theorem pe1_slice {r : V → Option Int → Option Int → Hp → VK → Prop} {lo hi : Option Expr} {tl th : TO} (hr : SlR X r) (he : PE X e te) (hl : PO X lo tl) (hu : PO1 X hi th) : Cl.PE1 X (.Subscript e (.Slice lo hi none p2) pos) (tSl r te tl th) := by
  intro pins s σ H Q I h
  refine Subscript_ (thn (he.run pins s σ H _ I h) fun v s1 q0 => ?_)
  obtain ⟨x, H1, I1, r1, q1⟩ := q0
  refine wpAny_Slice (thn (hl.run pins s1 σ H1 _ I1 q1) fun vl s2 q2' => ?_)
  obtain ⟨l, H2, I2, pl, q2⟩ := q2'
  refine thn (hu pins s2 σ H2 _ I2 q2) fun vu s3 q3' => ?_
  obtain ⟨hk, u, H3, I3, pu, q3⟩ := q3'
  rw [evalPart_none]
  refine wpAny_pure ?_
  let sB : Shared := { s3 with heap := s3.heap.push { cls := .type "slice", data := .fields #[vl, vu, .none] } }
  have I4 : Inv X pins σ H3 sB := I3.kept (t' := s3.toks) fun b ob q => Heap.get?_push_of_some _ q
  obtain ⟨T, id, hT, ht, hg⟩ := hr pins sB σ H3 x v vl vu l u s3.heap.objs.size Q I4 r1 (Heap.IsSliceOf.new ..) pl pu q3
  have fin : wpAny (model X.prog X.w) X.A (subscriptTail e (.Slice lo hi none p2) v (.ref s3.heap.objs.size)) (EP X pins σ Q) X.xe sB := tail_any (ops := [.ref s3.heap.objs.size, v]) ht hT hg (by with_unfolding_all rfl)
  refine wpAny_mono (PySem.wpAny_toks fin) (fun v s' q => ?_) fun _ _ z => z.2
  exact ⟨Nat.le_trans hk q.1, q.2⟩
end
end L2
namespace Cl
open PySem L2
section
variable {X : Cx} {B : Hp} {W : WX} {e hi o : Expr} {fe fh fo : ME} {pos p2 apos cpos cp : Pos} {T id name : String} {y : Str} {j : Nat}
theorem PA1imp {es : List Expr} {t t' : TA} (h : PA1 X es t) (i : ∀ s H Q, t' s H Q → t s H Q) : PA1 X es t' := fun pos pins s σ H Q I q => h pos pins s σ H Q I (i _ _ _ q)
abbrev QA1 (X : Cx) (B : Hp) (W : WX) (es : List Expr) (f : MA) : Prop := PA1 X es (tA X.K X.mg B W f)
theorem qa1_str (hs : starEach [.Constant (.str y) j cp] X.env = (false, eval (.Constant (.str y) j cp) X.env) :: starEach [] X.env := by rfl) : QA1 X B W [.Constant (.str y) j cp] (aCons (eC (.str y)) aNil) :=
  PA1imp (pa1_str pa_nil hs) fun s H Q q => by
    obtain ⟨F, rho, sl, st, c, S', h⟩ := q
    exact h F rho H (Same.refl _) (Pre.refl _) c [.str y] (.cons (.val (.str _)) .nil)
theorem q1_str : PE1 X (.Constant (.str y) j cp) (tE X.K X.mg B W (eC (.str y))) := fun pins s σ H Q I q => by
  obtain ⟨F, rho, sl, st, c, S', h⟩ := q
  refine Calls.Constant_str ⟨Nat.le_add_left 1 _, .str y, H, I.tok _, ⟨_, rfl⟩, ?_⟩
  exact h F rho H (Same.refl _) (Pre.refl _) c (.str y) (.val (.str _))
end
end Cl
namespace Cl
open PySem L2
section
variable {X : Cx} {B : Hp} {W : WX} {o e : Expr} {es : List Expr} {fe fo : ME} {fs : MA} {T id name : String} {name : Str} {r : V → List V → Hp → VK → Prop} {g : S → List S → M S} {apos cpos : Pos}
theorem q1_bmA (pa : PlainAttrs T) (slot : Slot T name id) (hty : typeOf (.builtin id) = pure (.type "method_descriptor")) (hm : MtR X id r) (hg : MtS X.K X.mg r g) (ho : QE X B W o fo) (ha : QA1 X B W (e :: es) fs)
    (hbase : attributeBase o name X.env (eval o X.env) = eval o X.env := by rfl)
    (hfew : ((backTo cpos (starEach (e :: es) X.env)).all (fun x => !x.1) && (backToKw cpos (keywordEach [] X.env)).all (fun x => x.1.isSome)
      && decide ((e :: es).length + ([] : List Keyword).length + (if ([] : List Keyword).isEmpty then 0 else 1) < 30)) = true := by rfl)
    (hline : (apos.endLine == cpos.line) = true := by rfl) (hs : starEach (e :: es) X.env = (false, eval e X.env) :: starEach es X.env := by rfl) (hplain : (backTo cpos (starEach es X.env)).any (·.1) = false := by rfl) :
    PE1 X (.Call (.Attribute o name apos) (e :: es) [] cpos) (tE X.K X.mg B W (eBM T g fo fs)) := by
  refine PE1imp (pe1_bmA pa slot hty hm ho ha hbase hfew hline hs hplain) fun s H Q q => one_of q fun F rho sl st H x dx c S' rx h => ?_
  unfold M.bind at h
  match q1 : chkT T dx st with
  | none => rw [q1] at h; exact h.elim
  | some (rr, st') =>
    obtain ⟨ty, rfl, rfl⟩ := chkT_ok c rx q1
    rw [q1] at h
    have h' : Post X.K X.mg B (fun F' rho' H' d => ∀ v, RepS X.K X.mg F' rho' v d → Q v H') (fun c d H' => W c d s H') F rho (((fs sl).bind fun ss => g dx ss) st') := h
    refine ⟨ty, F, rho, sl, _, c, S', h'.bind.mono (Same.refl _) (Pre.refl _) (fun F1 r1 H1 ds e1 p1 h1 vs rs => ?_) fun _ _ _ z => z⟩
    obtain ⟨st1, c1, _, _, h1⟩ := h1
    exact hg _ B F1 r1 st1 H1 x vs dx ds Q c1 (rx.mono e1 p1) rs h1
end
theorem PO1imp {X : Cx} {a : Option Expr} {t t' : TO} (h : PO1 X a t) (i : ∀ s H Q, t' s H Q → t s H Q) : PO1 X a t' := fun pins s σ H Q I q => h pins s σ H Q I (i _ _ _ q)
abbrev QO1 (X : Cx) (B : Hp) (W : WX) (a : Option Expr) (f : Option ME) : Prop := PO1 X a (tO X.K X.mg B W (oM f))
section
variable {X : Cx} {B : Hp} {W : WX} {e lo hi : Expr} {fe fl fh : ME} {pos p2 : Pos} {r : V → Option Int → Option Int → Hp → VK → Prop} {g : S → Option Int → Option Int → M S} {a b : Option Expr} {fa fb : Option ME}
theorem qo1_some (he : PE1 X e (tE X.K X.mg B W fe)) : QO1 X B W (some e) (some fe) := PO1imp (po1_some he) fun s H Q ⟨F, rho, sl, st, c, S', h⟩ => by
  refine ⟨F, rho, sl, st, c, S', Post.mono (Post.bind h) (Same.refl _) (Pre.refl _) (fun F1 r1 H1 d e1 p1 h1 v rv => ?_) fun _ _ _ z => z⟩
  obtain ⟨st1, c1, _, _, h1⟩ := h1
  cases rv with
  | obj _ => exact h1.elim
  | val rv =>
    cases rv with
    | int i => exact ⟨i, rfl, h1.done c1⟩
    | _ => exact h1.elim
theorem q1_slice (hr : SlR X r) (hg : SlS X.K X.mg r g) (he : QE X B W e fe) (ha : QO X B W a fa) (hb : QO1 X B W b fb) : PE1 X (.Subscript e (.Slice a b none p2) pos) (tE X.K X.mg B W (eSl g fe fa fb)) := by
  refine PE1imp (pe1_slice hr he ha hb) fun s H Q q => ?_
  obtain ⟨F, rho, sl, st, c, S', h⟩ := q
  refine ⟨F, rho, sl, st, c, S', h.bind.mono (Same.refl _) (Pre.refl _) (fun F1 r1 H1 dx e1 p1 h1 x rx => ?_) fun _ _ _ z => z⟩
  obtain ⟨st1, c1, _, _, h1⟩ := h1
  refine ⟨F1, r1, sl, st1, c1, S'.mono e1 p1, Post.mono (Post.bind (m := oM fa sl) h1) (Same.refl _) (Pre.refl _) (fun F2 r2 H2 l e2 p2 h2 => ?_) fun _ _ _ z => z⟩
  obtain ⟨st2, c2, _, _, h2⟩ := h2
  refine ⟨F2, r2, sl, st2, c2, S'.mono (e1.trans e2) (p1.trans p2), Post.mono (Post.bind (m := oM fb sl) h2) (Same.refl _) (Pre.refl _) (fun F3 r3 H3 u e3 p3 h3 => ?_) fun _ _ _ z => z⟩
  obtain ⟨st3, c3, _, _, h3⟩ := h3
  exact hg _ B F3 r3 st3 H3 x dx l u Q c3 (rx.mono (e2.trans e3) (p2.trans p3)) h3
end
section
variable {K : PySem.W.Frag} {mg : Str → Option Value}
/-- a number told of two texts -/
def gTxt2 (f : Str → Str → Int) : S → List S → M S
  | .val (.str a), [.val (.str b)] => ok1 (.int (f a b))
  | _, _ => M.stuck
theorem ms_txt2 (f : Str → Str → Int) : MtS K mg (fun x xs H Q => ∃ a b, x = .str a ∧ xs = [.str b] ∧ Q (.int (f a b)) H) (gTxt2 f) := by
  intro W B F rho st H x vs dx ds Q c rx rs h
  cases rx with
  | obj _ => exact h.elim
  | val rx =>
    cases rx with
    | str a =>
      cases rs with
      | nil => exact h.elim
      | cons r t =>
        cases r with
        | obj _ => exact h.elim
        | val r =>
          cases r with
          | str b =>
            cases t with
            | cons _ _ => exact h.elim
            | nil => exact ⟨a, b, rfl, rfl, h.done c _ (.val (.int _))⟩
          | _ => exact h.elim
    | _ => exact h.elim
abbrev gSCount := gTxt2 fun a b => Txt.count a b
abbrev gSRfind := gTxt2 fun a b => Txt.rfind a b
theorem ms_scount : MtS K mg (fun x xs H Q => ∃ a b, x = .str a ∧ xs = [.str b] ∧ Q (.int (Txt.count a b)) H) gSCount := ms_txt2 _
theorem ms_srfind : MtS K mg (fun x xs H Q => ∃ a b, x = .str a ∧ xs = [.str b] ∧ Q (.int (Txt.rfind a b)) H) gSRfind := ms_txt2 _
end
section
variable {X : Cx} {B : Hp} {W : WX} {e : Expr} {es : List Expr} {fs : MA} {x : Str} {j k n : Nat} {p pos : Pos}
theorem qet_cP {f : PF} {dds : List D} (h : CallPOk X.prog X.w X.K X.mg X.base x j n dds f) (hr : Room k X.A) (hj : j ≤ k) (tk : Takes X W) (ha : QAT X B W (e :: es) fs) (hg : Gl X x := by rfl) (hdb : (x == ("__debug__" : Str)) = false := by decide) (he : starEach (e :: es) X.env = (false, eval e X.env) :: starEach es X.env := by rfl) (hpl : (backTo pos (starEach es X.env)).any (·.1) = false := by rfl) :
    QET X B W (.Call (.Name x p) (e :: es) [] pos) (eArgs (gCallP n f dds) fs) := by
  obtain ⟨fa, fd, ps, dvs, dsv, F, hm, hk, hb, hd, rd⟩ := h
  exact PETimp (pet_callSD F (hr.mono hj) hg hm hk hb hd (fun σ => passAt tk σ) ha hdb he hpl) fun s H Q q => args_of q fun F rho st H vs ds c rs p => callP_post c rs rd p
end
end Cl
namespace G
open PySem L2 Cl
noncomputable def b__law_faulty : MS := (sSeq (sPar 1 2 (aCons (eArgs (gCallO 2 F__law_below []) (aCons (eVar 0) (aCons (eC (.int 18)) aNil))) (aCons (eC (.str "\nstart zz 99 for 0; pause 90 91;")) aNil)))
    (sSeq (sPar 3 4 (aCons (eC (.str "round 9;\nopen 2;\nvalves a b c;\n")) (aCons (eArgs (g1 gStr) (aCons (eBin gAdd (eC (.int 9)) (eArgs (gCallO 2 F__law_below []) (aCons (eVar 0) (aCons (eC (.int 90)) aNil)))) aNil)) aNil)))
    (sSeq (sIf (tBin gEq (eVar 1) (eC (.int 0))) (sRet (eArgs gTup (aCons (eBin gAdd (eBin gAdd (eBin gAdd (eC (.str "round @")) (eBin gIx (eArgs gLst (aCons (eC (.str "0")) (aCons (eC (.str "61")) (aCons (eC (.str "99")) aNil)))) (eArgs (gCallO 2 F__law_below []) (aCons (eVar 0) (aCons (eC (.int 3)) aNil))))) (eC (.str ";\nopen 0;\nvalves a;"))) (eVar 2)) (aCons (eC (.str "round")) aNil)))) sNext)
    (sSeq (sIf (tBin gEq (eVar 1) (eC (.int 1))) (sRet (eArgs gTup (aCons (eBin gAdd (eBin gAdd (eBin gAdd (eC (.str "round 9; open @")) (eBin gIx (eArgs gLst (aCons (eC (.str "0")) (aCons (eC (.str "10")) (aCons (eC (.str "99")) aNil)))) (eArgs (gCallO 2 F__law_below []) (aCons (eVar 0) (aCons (eC (.int 3)) aNil))))) (eC (.str ";\nvalves a;"))) (eVar 2)) (aCons (eC (.str "open")) aNil)))) sNext)
    (sSeq (sIf (tBin gEq (eVar 1) (eC (.int 2))) (sRet (eArgs gTup (aCons (eBin gAdd (eBin gAdd (eBin gAdd (eC (.str "round 9; open 1; valves a b @")) (eBin gIx (eC (.str "ab")) (eArgs (gCallO 2 F__law_below []) (aCons (eVar 0) (aCons (eC (.int 2)) aNil))))) (eC (.str " c;"))) (eVar 2)) (aCons (eC (.str "duplicate")) aNil)))) sNext)
    (sSeq (sIf (tBin gEq (eVar 1) (eC (.int 3))) (sRet (eArgs gTup (aCons (eBin gAdd (eBin gAdd (eBin gAdd (eC (.str "round 9; open 1; valves a b c d e f g h @")) (eBin gIx (eC (.str "ij")) (eArgs (gCallO 2 F__law_below []) (aCons (eVar 0) (aCons (eC (.int 2)) aNil))))) (eC (.str ";"))) (eVar 2)) (aCons (eC (.str "valves")) aNil)))) sNext)
    (sSeq (sIf (tBin gEq (eVar 1) (eC (.int 4))) (sRet (eArgs gTup (aCons (eBin gAdd (eBin gAdd (eBin gAdd (eBin gAdd (eVar 3) (eC (.str "start @zz "))) (eVar 4)) (eC (.str " for 31;"))) (eVar 2)) (aCons (eC (.str "unknown")) aNil)))) sNext)
    (sSeq (sIf (tBin gEq (eVar 1) (eC (.int 5))) (sRet (eArgs gTup (aCons (eBin gAdd (eBin gAdd (eVar 3) (eC (.str "rank a @zz a;"))) (eVar 2)) (aCons (eC (.str "unknown")) aNil)))) sNext)
    (sSeq (sIf (tBin gEq (eVar 1) (eC (.int 6))) (sRet (eArgs gTup (aCons (eBin gAdd (eBin gAdd (eBin gAdd (eBin gAdd (eVar 3) (eC (.str "start a @"))) (eVar 4)) (eC (.str " for 0;"))) (eVar 2)) (aCons (eC (.str "tick")) aNil)))) sNext)
    (sSeq (sIf (tBin gEq (eVar 1) (eC (.int 7))) (sRet (eArgs gTup (aCons (eBin gAdd (eBin gAdd (eBin gAdd (eBin gAdd (eVar 3) (eC (.str "start a 8 for @"))) (eBin gIx (eArgs gLst (aCons (eC (.str "0")) (aCons (eC (.str "31")) (aCons (eC (.str "99")) aNil)))) (eArgs (gCallO 2 F__law_below []) (aCons (eVar 0) (aCons (eC (.int 3)) aNil))))) (eC (.str ";"))) (eVar 2)) (aCons (eC (.str "length")) aNil)))) sNext)
    (sSeq (sIf (tBin gEq (eVar 1) (eC (.int 8))) (sRet (eArgs gTup (aCons (eBin gAdd (eBin gAdd (eBin gAdd (eVar 3) (eBin gMulS (eC (.str "start a 0 for 1; ")) (eC (.int 20)))) (eC (.str "\n@start b 8 for 30;"))) (eVar 2)) (aCons (eC (.str "starts")) aNil)))) sNext)
    (sSeq (sIf (tBin gEq (eVar 1) (eC (.int 9))) (sRet (eArgs gTup (aCons (eBin gAdd (eBin gAdd (eBin gAdd (eBin gAdd (eBin gAdd (eBin gAdd (eVar 3) (eC (.str "pause "))) (eArgs (g1 gStr) (aCons (eArgs (gCallO 2 F__law_below []) (aCons (eVar 0) (aCons (eC (.int 99)) aNil))) aNil))) (eC (.str " @"))) (eVar 4)) (eC (.str ";"))) (eVar 2)) (aCons (eC (.str "pause")) aNil)))) sNext)
    (sSeq (sIf (tBin gEq (eVar 1) (eC (.int 10))) (sRet (eArgs gTup (aCons (eBin gAdd (eBin gAdd (eBin gAdd (eBin gAdd (eVar 3) (eC (.str "pause @"))) (eArgs (g1 gStr) (aCons (eBin gAdd (eC (.int 6)) (eArgs (gCallO 2 F__law_below []) (aCons (eVar 0) (aCons (eC (.int 90)) aNil)))) aNil))) (eC (.str " 5;"))) (eVar 2)) (aCons (eC (.str "pause")) aNil)))) sNext)
    (sSeq (sIf (tBin gEq (eVar 1) (eC (.int 11))) (sRet (eArgs gTup (aCons (eBin gAdd (eBin gAdd (eBin gAdd (eBin gAdd (eVar 3) (eC (.str "rank a b @"))) (eBin gIx (eC (.str "ab")) (eArgs (gCallO 2 F__law_below []) (aCons (eVar 0) (aCons (eC (.int 2)) aNil))))) (eC (.str " c;"))) (eVar 2)) (aCons (eC (.str "rank")) aNil)))) sNext)
    (sSeq (sIf (tBin gEq (eVar 1) (eC (.int 12))) (sRet (eArgs gTup (aCons (eBin gAdd (eBin gAdd (eVar 3) (eC (.str "rank a b;\n@rank b a;"))) (eVar 2)) (aCons (eC (.str "twice")) aNil)))) sNext)
    (sSeq (sIf (tBin gEq (eVar 1) (eC (.int 13))) (sRet (eArgs gTup (aCons (eBin gAdd (eC (.str "round 9; open 1; valves a b c d e f g h @i;\nrank i;")) (eVar 2)) (aCons (eC (.str "valves")) aNil)))) sNext)
    (sSeq (sIf (tBin gEq (eVar 1) (eC (.int 14))) (sRet (eArgs gTup (aCons (eBin gAdd (eBin gAdd (eBin gAdd (eVar 3) (eRepl "@" "" (eC (.str "@rank b a; start c 0 for 1;\npause 0 0;")))) (eC (.str "\n@rank a;"))) (eVar 2)) (aCons (eC (.str "twice")) aNil)))) sNext)
    (sSeq (sSet 5 (eC (.str "round 60; open 9; valves a b c d e f g h; rank h g f e d c b a;\n")))
    (sRet (eArgs gTup (aCons (eBin gAdd (eBin gAdd (eBin gAdd (eC (.str "@")) (eVar 5)) (eBin gMulS (eC (.str "start h 59 for 30; ")) (eC (.int 20)))) (eBin gMulS (eC (.str "pause 0 59; pause 59 59; ")) (eC (.int 9)))) (aCons (eC (.str "")) aNil))))))))))))))))))))))
noncomputable def F__law_faulty : OF := asK 6 b__law_faulty
noncomputable def i1_law_k02 : MS := (sIf (tBin gNe (eVar 7) (eIf (tBin gNe (eVar 4) (eC (.str ""))) (eArgs gTup (aCons (eC (.str "check")) (aCons (eArgs gTup (aCons (eVar 4) (aCons (eBin gIx (eVar 6) (eC (.int 0))) (aCons (eBin gIx (eVar 6) (eC (.int 1))) aNil)))) aNil))) (eC .non))) (sRet (eC (.bl false))) sNext)
noncomputable def m1_law_k02 : ME := (eArgs (gCallP 1 F_format_planM []) (aCons (eRepl "@" "" (eVar 3)) aNil))
noncomputable def l1_law_k02 : MS := (sSeq (sAsg (eArgs (gCallO 1 F__law_faulty []) (aCons (eVar 1) aNil)) (tgTup 2 (tgCons (tgName 3) (tgCons (tgName 4) tgNil))))
    (sSeq (sSet 5 (eSl gSl (eVar 3) none (some (eBM "str" gSIndex (eVar 3) (aCons (eC (.str "@")) aNil)))))
    (sSeq (sSet 6 (eArgs gTup (aCons (eBM "str" gSCount (eVar 5) (aCons (eC (.str "\n")) aNil)) (aCons (eBin gSub (eBin gSub (eArgs (g1 gLen) (aCons (eVar 5) aNil)) (eBM "str" gSRfind (eVar 5) (aCons (eC (.str "\n")) aNil))) (eC (.int 1))) aNil))))
    (sSeq (sSet 7 (eErr told m1_law_k02))
    i1_law_k02))))
noncomputable def f1_law_k02 : MS := (sFor (iArgs gRange1 (aCons (eC (.int 6)) aNil)) (tgName 2) l1_law_k02)
noncomputable def b_law_k02 : MS := (sSeq (sSet 1 (eArgs (gCallN 2 F__law_random []) (aCons (eVar 0) (aCons (eC (.int 2)) aNil))))
    (sSeq f1_law_k02
    (sRet (eC (.bl true)))))
noncomputable def F_law_k02 : PF := asP 8 b_law_k02
end G
namespace G
open PySem L2 Cl
section
variable {P : Program} {w : World} {K : PySem.W.Frag} {mg : Str → Option Value} {base : Heap}
theorem sc__law_error_of : FnScope ["_law_call", "e", "_law_kinds", "_law_names", "_law_name"] ["_law_call"] (defScope (top 51)) := ⟨rfl, rfl, rfl, by decide +kernel, rfl, by decide +kernel, by decide +kernel⟩
theorem eo__law_error_of {f : Addr} {fd : FuncData} (Fn : FunD K "_law_error_of" "_law_error_of" (defArgs (top 51)) (defBody (top 51)) (defScope (top 51)) [] [] f fd) (hm : mg "_law_error_of" = some (.ref f)) (hb : Binds K fd ["_law_call"] []) (Es : ErrsOk K mg) (z_isinstance : mg "isinstance" = none) (z_ValueError : mg "ValueError" = none) : ErrOfTOk P w K mg base "_law_error_of" told := by
  have hk := Fn.kp
  obtain ⟨oc, od, dV, kV, doc, pm, an, cdv, ct, osl, rfl, lk, hcd, _, _⟩ := Fn.ex
  refine ⟨"_law_call", f, _, _, _, dV, kV, doc, pm, cdv, ct, oc, an, od, osl, ["_law_call", "e", "_law_kinds", "_law_names", "_law_name"], hm, hk, lk, hcd, hb, sc__law_error_of, rfl, Or.inl rfl, by decide, by decide, fun X B q k h1 h2 h3 h4 h5 => ?_⟩
  subst h1 h2 h3 h4 h5
  exact gives_errT (errs := errL) (bS := bs_error_of) (told := told) sc__law_error_of.nd rfl rfl rfl rfl Es.g (fun n hn C hC => (Es.at hn hC).2.2.2.2.1) told_ok (fun s H a oe cls d pn B' z hr hn hz hfs hE => have hu := hu65 hr; have hun := hr.units; (qss_cons (qs_set (i := 2) (qe_lst (qa_cons (qe_isOwn Es hz hfs hE hn z_isinstance) (qa_cons (qe_isOwn Es hz hfs hE hn z_isinstance) (qa_cons (qe_isOwn Es hz hfs hE hn z_isinstance) qa_nil)))) sc__law_error_of.nd)
      (qss_cons (qs_set (i := 2) (qe_op op_addA os_add (qe_var 2) (qe_lst (qa_cons (qe_isOwn Es hz hfs hE hn z_isinstance) (qa_cons (qe_isOwn Es hz hfs hE hn z_isinstance) (qa_cons (qe_isOwn Es hz hfs hE hn z_isinstance) qa_nil))))) sc__law_error_of.nd)
      (qss_cons (qs_set (i := 2) (qe_op op_addA os_add (qe_var 2) (qe_lst (qa_cons (qe_isOwn Es hz hfs hE hn z_isinstance) (qa_cons (qe_isOwn Es hz hfs hE hn z_isinstance) (qa_cons (qe_isOwn Es hz hfs hE hn z_isinstance) qa_nil))))) sc__law_error_of.nd)
      (qss_cons (qs_set (i := 2) (qe_op op_addA os_add (qe_var 2) (qe_lst (qa_cons (qe_isOwn Es hz hfs hE hn z_isinstance) (qa_cons (qe_isOwn Es hz hfs hE hn z_isinstance) (qa_cons (qe_isOwn Es hz hfs hE hn z_isinstance) qa_nil))))) sc__law_error_of.nd)
      (qss_cons (qs_set (i := 2) (qe_op op_addA os_add (qe_var 2) (qe_lst (qa_cons (qe_isOwn Es hz hfs hE hn z_isinstance) (qa_cons (qe_isOwn Es hz hfs hE hn z_isinstance) qa_nil)))) sc__law_error_of.nd)
      (qss_cons (qs_if (PW.pt (qw_or (qt_cmp (op_neD hun) os_ne (qe_bm PySem.F.plainAttrs_list PySem.F.slot_list_count PySem.F.type_list_count mt_cntF ms_cntB (qe_var 2) (qa_cons qe_bl qa_nil)) qe_int (nomark _)) (qw_or1 (qt_not (qt_val (qe_isVE Es hz hfs hE hn z_isinstance z_ValueError)))))) (qss_one (qs_ret (qe_tup (qa_cons qe_str (qa_cons qe_int qa_nil))))) qss_nil)
      (qss_cons (qs_set (i := 3) (qe_lst (qa_cons qe_str (qa_cons qe_str (qa_cons qe_str (qa_cons qe_str (qa_cons qe_str (qa_cons qe_str (qa_cons qe_str (qa_cons qe_str (qa_cons qe_str (qa_cons qe_str qa_nil))))))))))) sc__law_error_of.nd)
      (qss_cons (qs_set (i := 4) (qe_ix ix_seq os_ix (qe_op op_addA os_add (qe_var 3) (qe_lst (qa_cons qe_str (qa_cons qe_str (qa_cons qe_str (qa_cons qe_str qa_nil)))))) (qe_bm PySem.F.plainAttrs_list PySem.F.slot_list_index PySem.F.type_list_index (mt_indexD hu) ms_index (qe_var 2) (qa_cons qe_bl qa_nil))) sc__law_error_of.nd)
      (qss_cons (qs_if (qt_cmp (op_inA hu) os_in (qe_var 4) (qe_lst (qa_cons qe_str (qa_cons qe_str qa_nil))) (by with_unfolding_all rfl)) (qss_one (qs_ret (qe_tup (qa_cons (qe_var 4) (qa_cons (qe_ifExp (qt_cmp (op_eqD hun) os_eq (qe_var 4) qe_str (nomark _)) (qe_tup (qa_cons (qe_xfE Es hz hfs hE hn) (qa_cons (qe_xfE Es hz hfs hE hn) qa_nil))) (qe_tup (qa_cons (qe_xfE Es hz hfs hE hn) (qa_cons (qe_xfE Es hz hfs hE hn) (qa_cons (qe_xfE Es hz hfs hE hn) qa_nil))))) qa_nil))))) qss_nil)
      (qss_one (qs_ret (qe_tup (qa_cons (qe_var 4) (qa_cons (qe_ifExp (qt_cmp (op_inA hu) os_in (qe_var 4) (qe_lst (qa_cons qe_str (qa_cons qe_str qa_nil))) (by with_unfolding_all rfl)) (qe_xfE Es hz hfs hE hn) qe_int) qa_nil)))))))))))))))
theorem sc_Token_init : FnScope ["self", "kind", "text", "line", "column"] ["self", "kind", "text", "line", "column"] (defScope (inClass (top 30) 0)) := ⟨rfl, rfl, rfl, by decide +kernel, rfl, by decide +kernel, by decide +kernel⟩
theorem ok_Token_init {f : Addr} {fd : FuncData} {dvs : List V} {kws : List (Str × V)} (Fn : FunD K "__init__" "Token.__init__" (defArgs (inClass (top 30) 0)) (defBody (inClass (top 30) 0)) (defScope (inClass (top 30) 0)) dvs kws f fd) (c_Token_column : ClsF K mg ["Token"] "column") (c_Token_line : ClsF K mg ["Token"] "line") (c_Token_text : ClsF K mg ["Token"] "text") (c_Token_kind : ClsF K mg ["Token"] "kind") : FnOk P w K mg base (L2N.CX P w) 1 f fd ["self", "kind", "text", "line", "column"] (spM K mg "Token" 5 F_Token_init) := by
  refine fn_M Fn sc_Token_init (fun cdv A outer s H E B hr => ?_)
  have tk := L2N.takes_of (X := cxOf (L2N.CX P w) P w K mg base ["self", "kind", "text", "line", "column"] "Token.__init__" (defScope (inClass (top 30) 0)) f cdv A outer s H E) (E := E) rfl rfl rfl rfl
  have hp := passes_of (X := cxOf (L2N.CX P w) P w K mg base ["self", "kind", "text", "line", "column"] "Token.__init__" (defScope (inClass (top 30) 0)) f cdv A outer s H E) (K := fun e s'' => L2N.CX P w outer H s E e s'') rfl
  exact (qss_cons (qs_fld c_Token_kind (qe_var 0) (qe_var 1))
      (qss_cons (qs_fld c_Token_text (qe_var 0) (qe_var 2))
      (qss_cons (qs_fld c_Token_line (qe_var 0) (qe_var 3))
      (qss_one (qs_fld c_Token_column (qe_var 0) (qe_var 4))))))
theorem sc_run_end : FnScope ["row", "start", "letters", "end"] ["row", "start", "letters"] (defScope (top 31)) := ⟨rfl, rfl, rfl, by decide +kernel, rfl, by decide +kernel, by decide +kernel⟩
theorem ok_run_end {f : Addr} {fd : FuncData} {dvs : List V} {kws : List (Str × V)} (Fn : FunD K "run_end" "run_end" (defArgs (top 31)) (defBody (top 31)) (defScope (top 31)) dvs kws f fd) (z_len : mg "len" = none) : FnOk P w K mg base (L2N.CX P w) 1 f fd ["row", "start", "letters"] (spP K mg 3 F_run_end) := by
  refine fn_P Fn sc_run_end (fun cdv A outer s H E B hr => ?_)
  have tk := L2N.takes_of (X := cxOf (L2N.CX P w) P w K mg base ["row", "start", "letters", "end"] "run_end" (defScope (top 31)) f cdv A outer s H E) (E := E) rfl rfl rfl rfl
  have hp := passes_of (X := cxOf (L2N.CX P w) P w K mg base ["row", "start", "letters", "end"] "run_end" (defScope (top 31)) f cdv A outer s H E) (K := fun e s'' => L2N.CX P w outer H s E e s'') rfl
  exact (qss_cons (qs_set (i := 3) (qe_var 1) sc_run_end.nd)
      (qss_cons (qs_while hp (PW.pt (qw_and (qt_cmp op_lt os_lt (qe_var 3) (qe_callB call_lenA cs_len z_len PySem.boot_len (qa_cons (qe_var 0) qa_nil)) (nomark _)) (qw_and1 (qt_cmp (op_inA (hu65 hr)) os_in (qe_ix ix_seq os_ix (qe_var 0) (qe_var 3)) (qe_var 2) (by with_unfolding_all rfl))))) (qss_one (qs_aug (i := 3) sc_run_end.nd ip_add is_add qe_int)))
      (qss_one (qs_ret (qe_var 3)))))
theorem sc_read_token : FnScope ["row", "line", "column", "first", "word"] ["row", "line", "column"] (defScope (top 32)) := ⟨rfl, rfl, rfl, by decide +kernel, rfl, by decide +kernel, by decide +kernel⟩
theorem ok_read_token {f : Addr} {fd : FuncData} {dvs : List V} {kws : List (Str × V)} (Fn : FunD K "read_token" "read_token" (defArgs (top 32)) (defBody (top 32)) (defScope (top 32)) dvs kws f fd) (g_NAME : GStr mg "NAME" "name") (K_Token : MakeMOk P w K mg base "Token" 1 5 [] F_Token_init) (z_len : mg "len" = none) (g_MAX_LETTERS : GInt mg "MAX_LETTERS" 8) (R_SyntaxFault : RaiseXOk P w K mg base "SyntaxFault" ["line", "column"] 1) (g_KEYWORDS : GTupS K mg "KEYWORDS" ["round", "open", "valves", "start", "for", "pause", "rank"]) (g_KEYWORD : GStr mg "KEYWORD" "keyword") (g_LETTERS : GStr mg "LETTERS" "abcdefghijklmnopqrstuvwxyz") (C_run_end : CallPOk P w K mg base "run_end" 1 3 [] F_run_end) (g_DIGITS : GStr mg "DIGITS" "0123456789") (g_NUMBER : GStr mg "NUMBER" "number") (g_MAX_DIGITS : GInt mg "MAX_DIGITS" 2) (g_END_SIGN : GStr mg "END_SIGN" ";") (g_SIGN : GStr mg "SIGN" "sign") : FnOk P w K mg base (L2N.CX P w) 3 f fd ["row", "line", "column"] (spP K mg 3 F_read_token) := by
  refine fn_P Fn sc_read_token (fun cdv A outer s H E B hr => ?_)
  have tk := L2N.takes_of (X := cxOf (L2N.CX P w) P w K mg base ["row", "line", "column", "first", "word"] "read_token" (defScope (top 32)) f cdv A outer s H E) (E := E) rfl rfl rfl rfl
  have hp := passes_of (X := cxOf (L2N.CX P w) P w K mg base ["row", "line", "column", "first", "word"] "read_token" (defScope (top 32)) f cdv A outer s H E) (K := fun e s'' => L2N.CX P w outer H s E e s'') rfl
  exact (qss_cons (qs_set (i := 3) (qe_ix ix_seq os_ix (qe_var 0) (qe_var 2)) sc_read_token.nd)
      (qss_cons (qs_if (qt_cmp (op_eqD hr.units) os_eq (qe_var 3) (qe_gStr g_END_SIGN) (nomark _)) (qss_one (qs_ret (qe_kM K_Token hr (by decide) tk (qa_cons (qe_gStr g_SIGN) (qa_cons (qe_var 3) (qa_cons (qe_var 1) (qa_cons (qe_var 2) qa_nil))))))) qss_nil)
      (qss_cons (qs_if (qt_cmp (op_inA (hu65 hr)) os_in (qe_var 3) (qe_gStr g_DIGITS) (by with_unfolding_all rfl)) (qss_cons (qs_set (i := 4) (qe_slice sl_all ss_sl (qe_var 0) (qo_some (qe_var 2)) (qo_some (qe_cP C_run_end hr (by decide) tk (qa_cons (qe_var 0) (qa_cons (qe_var 2) (qa_cons (qe_gStr g_DIGITS) qa_nil)))))) sc_read_token.nd)
      (qss_cons (qs_if (PW.pt (qw_or (qt_cmp op_gt os_gt (qe_callB call_lenA cs_len z_len PySem.boot_len (qa_cons (qe_var 4) qa_nil)) (qe_gInt g_MAX_DIGITS) (nomark _)) (qw_or1 (PW.pt (qw_and (qt_cmp op_gt os_gt (qe_callB call_lenA cs_len z_len PySem.boot_len (qa_cons (qe_var 4) qa_nil)) qe_int (nomark _)) (qw_and1 (qt_cmp (op_eqD hr.units) os_eq (qe_var 3) qe_str (nomark _)))))))) (qss_one (qs_rX R_SyntaxFault rfl hr (by decide) tk (qa_cons (qe_var 1) (qa_cons (qe_var 2) qa_nil)))) qss_nil)
      (qss_one (qs_ret (qe_kM K_Token hr (by decide) tk (qa_cons (qe_gStr g_NUMBER) (qa_cons (qe_var 4) (qa_cons (qe_var 1) (qa_cons (qe_var 2) qa_nil))))))))) qss_nil)
      (qss_cons (qs_set (i := 4) (qe_slice sl_all ss_sl (qe_var 0) (qo_some (qe_var 2)) (qo_some (qe_cP C_run_end hr (by decide) tk (qa_cons (qe_var 0) (qa_cons (qe_var 2) (qa_cons (qe_gStr g_LETTERS) qa_nil)))))) sc_read_token.nd)
      (qss_cons (qs_if (qt_cmp (op_inA (hu65 hr)) os_in (qe_var 4) (qe_gTupS g_KEYWORDS) (by with_unfolding_all rfl)) (qss_one (qs_ret (qe_kM K_Token hr (by decide) tk (qa_cons (qe_gStr g_KEYWORD) (qa_cons (qe_var 4) (qa_cons (qe_var 1) (qa_cons (qe_var 2) qa_nil))))))) qss_nil)
      (qss_cons (qs_if (qt_not (qt_chain op_le os_le op_le os_le qe_int (qe_callB call_lenA cs_len z_len PySem.boot_len (qa_cons (qe_var 4) qa_nil)) (qe_gInt g_MAX_LETTERS))) (qss_one (qs_rX R_SyntaxFault rfl hr (by decide) tk (qa_cons (qe_var 1) (qa_cons (qe_var 2) qa_nil)))) qss_nil)
      (qss_one (qs_ret (qe_kM K_Token hr (by decide) tk (qa_cons (qe_gStr g_NAME) (qa_cons (qe_var 4) (qa_cons (qe_var 1) (qa_cons (qe_var 2) qa_nil)))))))))))))
theorem sc_tokenize : FnScope ["source", "tokens", "rows", "line", "row", "column", "token"] ["source"] (defScope (top 33)) := ⟨rfl, rfl, rfl, by decide +kernel, rfl, by decide +kernel, by decide +kernel⟩
theorem ok_tokenize {f : Addr} {fd : FuncData} {dvs : List V} {kws : List (Str × V)} (Fn : FunD K "tokenize" "tokenize" (defArgs (top 33)) (defBody (top 33)) (defScope (top 33)) dvs kws f fd) (z_len : mg "len" = none) (g_END : GStr mg "END" "end") (K_Token : MakeMOk P w K mg base "Token" 1 5 [] F_Token_init) (z_enumerate : mg "enumerate" = none) (g_SPACES : GStr mg "SPACES" " \n") (c_Token_text : ClsF K mg ["Token"] "text") (C_read_token : CallPOk P w K mg base "read_token" 3 3 [] F_read_token) : FnOk P w K mg base (L2N.CX P w) 4 f fd ["source"] (spP K mg 1 F_tokenize) := by
  refine fn_P Fn sc_tokenize (fun cdv A outer s H E B hr => ?_)
  have tk := L2N.takes_of (X := cxOf (L2N.CX P w) P w K mg base ["source", "tokens", "rows", "line", "row", "column", "token"] "tokenize" (defScope (top 33)) f cdv A outer s H E) (E := E) rfl rfl rfl rfl
  have hp := passes_of (X := cxOf (L2N.CX P w) P w K mg base ["source", "tokens", "rows", "line", "row", "column", "token"] "tokenize" (defScope (top 33)) f cdv A outer s H E) (K := fun e s'' => L2N.CX P w outer H s E e s'') rfl
  exact (qss_cons (qs_set (i := 1) (qe_lstO qa_nil) sc_tokenize.nd)
      (qss_cons (qs_set (i := 2) (qe_bm PySem.F.plainAttrs_str PySem.F.slot_str_split PySem.F.type_str_split mt_split ms_split (qe_var 0) (qa_cons qe_str qa_nil)) sc_tokenize.nd)
      (qss_cons (qs_for hp rfl (qi_enum z_enumerate (qa_cons (qe_var 2) qa_nil)) (qg_tup rfl (qgs_cons (qg_name (i := 3) sc_tokenize.nd) (qgs_cons (qg_name (i := 4) sc_tokenize.nd) qgs_nil))) (qss_cons (qs_set (i := 5) qe_int sc_tokenize.nd)
      (qss_one (qs_while hp (qt_cmp op_lt os_lt (qe_var 5) (qe_callB call_lenA cs_len z_len PySem.boot_len (qa_cons (qe_var 4) qa_nil)) (nomark _)) (qss_one (qs_if (qt_cmp (op_inA (hu65 hr)) os_in (qe_ix ix_seq os_ix (qe_var 4) (qe_var 5)) (qe_gStr g_SPACES) (by with_unfolding_all rfl)) (qss_one (qs_aug (i := 5) sc_tokenize.nd ip_add is_add qe_int)) (qss_cons (qs_set (i := 6) (qe_cP C_read_token hr (by decide) tk (qa_cons (qe_var 4) (qa_cons (qe_var 3) (qa_cons (qe_var 5) qa_nil)))) sc_tokenize.nd)
      (qss_cons (qs_expr (qe_bm PySem.F.plainAttrs_list PySem.F.slot_list_append PySem.F.type_list_append mt_append ms_append (qe_var 1) (qa_cons (qe_var 6) qa_nil)))
      (qss_one (qs_aug (i := 5) sc_tokenize.nd ip_add is_add (qe_callB call_lenA cs_len z_len PySem.boot_len (qa_cons (qe_fld c_Token_text (qe_var 6)) qa_nil))))))))))))
      (qss_one (qs_ret (qe_op op_addA os_add (qe_var 1) (qe_lst (qa_cons (qe_kM K_Token hr (by decide) tk (qa_cons (qe_gStr g_END) (qa_cons qe_str (qa_cons (qe_callB call_lenA cs_len z_len PySem.boot_len (qa_cons (qe_var 2) qa_nil)) (qa_cons qe_int qa_nil))))) qa_nil))))))))
theorem sc_Parser_init : FnScope ["self", "tokens"] ["self", "tokens"] (defScope (inClass (top 41) 0)) := ⟨rfl, rfl, rfl, by decide +kernel, rfl, by decide +kernel, by decide +kernel⟩
theorem ok_Parser_init {f : Addr} {fd : FuncData} {dvs : List V} {kws : List (Str × V)} (Fn : FunD K "__init__" "Parser.__init__" (defArgs (inClass (top 41) 0)) (defBody (inClass (top 41) 0)) (defScope (inClass (top 41) 0)) dvs kws f fd) (c_Parser_ranks : ClsF K mg ["Parser"] "ranks") (c_Parser_pauses : ClsF K mg ["Parser"] "pauses") (c_Parser_starts : ClsF K mg ["Parser"] "starts") (c_Parser_names : ClsF K mg ["Parser"] "names") (c_Parser_faults : ClsF K mg ["Parser"] "faults") (c_Parser_at : ClsF K mg ["Parser"] "at") (c_Parser_tokens : ClsF K mg ["Parser"] "tokens") : FnOk P w K mg base (L2N.CX P w) 1 f fd ["self", "tokens"] (spO K mg 2 F_Parser_init) := by
  refine fn_O Fn sc_Parser_init (fun cdv A outer s H E B hr => ?_)
  have tk := L2N.takes_of (X := cxOf (L2N.CX P w) P w K mg base ["self", "tokens"] "Parser.__init__" (defScope (inClass (top 41) 0)) f cdv A outer s H E) (E := E) rfl rfl rfl rfl
  have hp := passes_of (X := cxOf (L2N.CX P w) P w K mg base ["self", "tokens"] "Parser.__init__" (defScope (inClass (top 41) 0)) f cdv A outer s H E) (K := fun e s'' => L2N.CX P w outer H s E e s'') rfl
  exact (qss_cons (qs_fld c_Parser_tokens (qe_var 0) (qe_var 1))
      (qss_cons (qs_fld c_Parser_at (qe_var 0) qe_int)
      (qss_cons (qs_fld c_Parser_faults (qe_var 0) (qe_lstO qa_nil))
      (qss_cons (qs_fld c_Parser_names (qe_var 0) (qe_lstO qa_nil))
      (qss_cons (qs_fld c_Parser_starts (qe_var 0) (qe_lstO qa_nil))
      (qss_cons (qs_fld c_Parser_pauses (qe_var 0) (qe_lstO qa_nil))
      (qss_one (qs_fld c_Parser_ranks (qe_var 0) qe_non))))))))
theorem sc_Plan_init : FnScope ["self", "length", "most", "names", "starts", "paused", "ranks"] ["self", "length", "most", "names", "starts", "paused", "ranks"] (defScope (inClass (top 40) 0)) := ⟨rfl, rfl, rfl, by decide +kernel, rfl, by decide +kernel, by decide +kernel⟩
theorem ok_Plan_init {f : Addr} {fd : FuncData} {dvs : List V} {kws : List (Str × V)} (Fn : FunD K "__init__" "Plan.__init__" (defArgs (inClass (top 40) 0)) (defBody (inClass (top 40) 0)) (defScope (inClass (top 40) 0)) dvs kws f fd) (c_Plan_ranks : ClsF K mg ["Plan"] "ranks") (c_Plan_paused : ClsF K mg ["Plan"] "paused") (c_Plan_starts : ClsF K mg ["Plan"] "starts") (c_Plan_names : ClsF K mg ["Plan"] "names") (c_Plan_most : ClsF K mg ["Plan"] "most") (c_Plan_length : ClsF K mg ["Plan"] "length") : FnOk P w K mg base (L2N.CX P w) 1 f fd ["self", "length", "most", "names", "starts", "paused", "ranks"] (spM K mg "Plan" 7 F_Plan_init) := by
  refine fn_M Fn sc_Plan_init (fun cdv A outer s H E B hr => ?_)
  have tk := L2N.takes_of (X := cxOf (L2N.CX P w) P w K mg base ["self", "length", "most", "names", "starts", "paused", "ranks"] "Plan.__init__" (defScope (inClass (top 40) 0)) f cdv A outer s H E) (E := E) rfl rfl rfl rfl
  have hp := passes_of (X := cxOf (L2N.CX P w) P w K mg base ["self", "length", "most", "names", "starts", "paused", "ranks"] "Plan.__init__" (defScope (inClass (top 40) 0)) f cdv A outer s H E) (K := fun e s'' => L2N.CX P w outer H s E e s'') rfl
  exact (qss_cons (qs_fld c_Plan_length (qe_var 0) (qe_var 1))
      (qss_cons (qs_fld c_Plan_most (qe_var 0) (qe_var 2))
      (qss_cons (qs_fld c_Plan_names (qe_var 0) (qe_var 3))
      (qss_cons (qs_fld c_Plan_starts (qe_var 0) (qe_var 4))
      (qss_cons (qs_fld c_Plan_paused (qe_var 0) (qe_var 5))
      (qss_one (qs_fld c_Plan_ranks (qe_var 0) (qe_var 6))))))))
theorem sc_Parser_peek : FnScope ["self"] ["self"] (defScope (inClass (top 41) 1)) := ⟨rfl, rfl, rfl, by decide +kernel, rfl, by decide +kernel, by decide +kernel⟩
theorem ok_Parser_peek {f : Addr} {fd : FuncData} {dvs : List V} {kws : List (Str × V)} (Fn : FunD K "peek" "Parser.peek" (defArgs (inClass (top 41) 1)) (defBody (inClass (top 41) 1)) (defScope (inClass (top 41) 1)) dvs kws f fd) (c_Parser_tokens : ClsF K mg ["Parser"] "tokens") (c_Parser_at : ClsF K mg ["Parser"] "at") : FnOk P w K mg base (L2N.CX P w) 1 f fd ["self"] (spO K mg 1 F_Parser_peek) := by
  refine fn_C Fn sc_Parser_peek (fun cdv A outer s H E B hr => ?_)
  have tk := L2N.takes_of (X := cxOf (L2N.CX P w) P w K mg base ["self"] "Parser.peek" (defScope (inClass (top 41) 1)) f cdv A outer s H E) (E := E) rfl rfl rfl rfl
  have hp := passes_of (X := cxOf (L2N.CX P w) P w K mg base ["self"] "Parser.peek" (defScope (inClass (top 41) 1)) f cdv A outer s H E) (K := fun e s'' => L2N.CX P w outer H s E e s'') rfl
  exact (qss_one (qs_ret (qe_ix ix_seq os_ix (qe_fld c_Parser_tokens (qe_var 0)) (qe_fld c_Parser_at (qe_var 0)))))
theorem sc_Parser_fail : FnScope ["self", "token"] ["self"] (defScope (inClass (top 41) 2)) := ⟨rfl, rfl, rfl, by decide +kernel, rfl, by decide +kernel, by decide +kernel⟩
theorem ok_Parser_fail {f : Addr} {fd : FuncData} {dvs : List V} {kws : List (Str × V)} (Fn : FunD K "fail" "Parser.fail" (defArgs (inClass (top 41) 2)) (defBody (inClass (top 41) 2)) (defScope (inClass (top 41) 2)) dvs kws f fd) (c_Token_column : ClsF K mg ["Token"] "column") (c_Token_line : ClsF K mg ["Token"] "line") (R_SyntaxFault : RaiseXOk P w K mg base "SyntaxFault" ["line", "column"] 1) (M_Parser_peek : MethOOk P w K mg base "Parser" "peek" 1 1 [] F_Parser_peek) : FnOk P w K mg base (L2N.CX P w) 3 f fd ["self"] (spO K mg 1 F_Parser_fail) := by
  refine fn_C Fn sc_Parser_fail (fun cdv A outer s H E B hr => ?_)
  have tk := L2N.takes_of (X := cxOf (L2N.CX P w) P w K mg base ["self", "token"] "Parser.fail" (defScope (inClass (top 41) 2)) f cdv A outer s H E) (E := E) rfl rfl rfl rfl
  have hp := passes_of (X := cxOf (L2N.CX P w) P w K mg base ["self", "token"] "Parser.fail" (defScope (inClass (top 41) 2)) f cdv A outer s H E) (K := fun e s'' => L2N.CX P w outer H s E e s'') rfl
  exact (qss_cons (qs_set (i := 1) (qe_mO0 M_Parser_peek hr (by decide) tk (qe_var 0)) sc_Parser_fail.nd)
      (qss_one (qs_rX R_SyntaxFault rfl hr (by decide) tk (qa_cons (qe_fld c_Token_line (qe_var 1)) (qa_cons (qe_fld c_Token_column (qe_var 1)) qa_nil)))))
theorem sc_Parser_found : FnScope ["self", "reason", "token"] ["self", "reason", "token"] (defScope (inClass (top 41) 3)) := ⟨rfl, rfl, rfl, by decide +kernel, rfl, by decide +kernel, by decide +kernel⟩
theorem ok_Parser_found {f : Addr} {fd : FuncData} {dvs : List V} {kws : List (Str × V)} (Fn : FunD K "found" "Parser.found" (defArgs (inClass (top 41) 3)) (defBody (inClass (top 41) 3)) (defScope (inClass (top 41) 3)) dvs kws f fd) (c_Parser_faults : ClsF K mg ["Parser"] "faults") (z_len : mg "len" = none) (c_Token_column : ClsF K mg ["Token"] "column") (c_Token_line : ClsF K mg ["Token"] "line") : FnOk P w K mg base (L2N.CX P w) 1 f fd ["self", "reason", "token"] (spO K mg 3 F_Parser_found) := by
  refine fn_C Fn sc_Parser_found (fun cdv A outer s H E B hr => ?_)
  have tk := L2N.takes_of (X := cxOf (L2N.CX P w) P w K mg base ["self", "reason", "token"] "Parser.found" (defScope (inClass (top 41) 3)) f cdv A outer s H E) (E := E) rfl rfl rfl rfl
  have hp := passes_of (X := cxOf (L2N.CX P w) P w K mg base ["self", "reason", "token"] "Parser.found" (defScope (inClass (top 41) 3)) f cdv A outer s H E) (K := fun e s'' => L2N.CX P w outer H s E e s'') rfl
  exact (qss_one (qs_expr (qe_bm PySem.F.plainAttrs_list PySem.F.slot_list_append PySem.F.type_list_append mt_append ms_append (qe_fld c_Parser_faults (qe_var 0)) (qa_cons (qe_tup (qa_cons (qe_fld c_Token_line (qe_var 2)) (qa_cons (qe_fld c_Token_column (qe_var 2)) (qa_cons (qe_callB call_lenA cs_len z_len PySem.boot_len (qa_cons (qe_fld c_Parser_faults (qe_var 0)) qa_nil)) (qa_cons (qe_var 1) qa_nil))))) qa_nil))))
theorem sc_Parser_take_word : FnScope ["self", "word"] ["self", "word"] (defScope (inClass (top 41) 5)) := ⟨rfl, rfl, rfl, by decide +kernel, rfl, by decide +kernel, by decide +kernel⟩
theorem ok_Parser_take_word {f : Addr} {fd : FuncData} {dvs : List V} {kws : List (Str × V)} (Fn : FunD K "take_word" "Parser.take_word" (defArgs (inClass (top 41) 5)) (defBody (inClass (top 41) 5)) (defScope (inClass (top 41) 5)) dvs kws f fd) (c_Parser_at : ClsF K mg ["Parser"] "at") (M_Parser_peek : MethOOk P w K mg base "Parser" "peek" 1 1 [] F_Parser_peek) (c_Token_text : ClsF K mg ["Token"] "text") (M_Parser_fail : MethOOk P w K mg base "Parser" "fail" 3 1 [] F_Parser_fail) : FnOk P w K mg base (L2N.CX P w) 4 f fd ["self", "word"] (spO K mg 2 F_Parser_take_word) := by
  refine fn_C Fn sc_Parser_take_word (fun cdv A outer s H E B hr => ?_)
  have tk := L2N.takes_of (X := cxOf (L2N.CX P w) P w K mg base ["self", "word"] "Parser.take_word" (defScope (inClass (top 41) 5)) f cdv A outer s H E) (E := E) rfl rfl rfl rfl
  have hp := passes_of (X := cxOf (L2N.CX P w) P w K mg base ["self", "word"] "Parser.take_word" (defScope (inClass (top 41) 5)) f cdv A outer s H E) (K := fun e s'' => L2N.CX P w outer H s E e s'') rfl
  exact (qss_cons (qs_if (qt_cmp (op_neD hr.units) os_ne (qe_fld c_Token_text (qe_mO0 M_Parser_peek hr (by decide) tk (qe_var 0))) (qe_var 1) (nomark _)) (qss_one (qs_expr (qe_mO0 M_Parser_fail hr (by decide) tk (qe_var 0)))) qss_nil)
      (qss_one (qs_fldaug c_Parser_at in_add is_add (qe_var 0) qe_int)))
theorem sc_Parser_take : FnScope ["self", "kind", "token"] ["self", "kind"] (defScope (inClass (top 41) 4)) := ⟨rfl, rfl, rfl, by decide +kernel, rfl, by decide +kernel, by decide +kernel⟩
theorem ok_Parser_take {f : Addr} {fd : FuncData} {dvs : List V} {kws : List (Str × V)} (Fn : FunD K "take" "Parser.take" (defArgs (inClass (top 41) 4)) (defBody (inClass (top 41) 4)) (defScope (inClass (top 41) 4)) dvs kws f fd) (c_Parser_at : ClsF K mg ["Parser"] "at") (c_Token_kind : ClsF K mg ["Token"] "kind") (M_Parser_fail : MethOOk P w K mg base "Parser" "fail" 3 1 [] F_Parser_fail) (M_Parser_peek : MethOOk P w K mg base "Parser" "peek" 1 1 [] F_Parser_peek) : FnOk P w K mg base (L2N.CX P w) 4 f fd ["self", "kind"] (spO K mg 2 F_Parser_take) := by
  refine fn_C Fn sc_Parser_take (fun cdv A outer s H E B hr => ?_)
  have tk := L2N.takes_of (X := cxOf (L2N.CX P w) P w K mg base ["self", "kind", "token"] "Parser.take" (defScope (inClass (top 41) 4)) f cdv A outer s H E) (E := E) rfl rfl rfl rfl
  have hp := passes_of (X := cxOf (L2N.CX P w) P w K mg base ["self", "kind", "token"] "Parser.take" (defScope (inClass (top 41) 4)) f cdv A outer s H E) (K := fun e s'' => L2N.CX P w outer H s E e s'') rfl
  exact (qss_cons (qs_set (i := 2) (qe_mO0 M_Parser_peek hr (by decide) tk (qe_var 0)) sc_Parser_take.nd)
      (qss_cons (qs_if (qt_cmp (op_neD hr.units) os_ne (qe_fld c_Token_kind (qe_var 2)) (qe_var 1) (nomark _)) (qss_one (qs_expr (qe_mO0 M_Parser_fail hr (by decide) tk (qe_var 0)))) qss_nil)
      (qss_cons (qs_fldaug c_Parser_at in_add is_add (qe_var 0) qe_int)
      (qss_one (qs_ret (qe_var 2))))))
theorem sc_Parser_take_names : FnScope ["self", "tokens"] ["self"] (defScope (inClass (top 41) 6)) := ⟨rfl, rfl, rfl, by decide +kernel, rfl, by decide +kernel, by decide +kernel⟩
theorem ok_Parser_take_names {f : Addr} {fd : FuncData} {dvs : List V} {kws : List (Str × V)} (Fn : FunD K "take_names" "Parser.take_names" (defArgs (inClass (top 41) 6)) (defBody (inClass (top 41) 6)) (defScope (inClass (top 41) 6)) dvs kws f fd) (M_Parser_take_word : MethOOk P w K mg base "Parser" "take_word" 4 2 [] F_Parser_take_word) (g_END_SIGN : GStr mg "END_SIGN" ";") (M_Parser_peek : MethOOk P w K mg base "Parser" "peek" 1 1 [] F_Parser_peek) (c_Token_kind : ClsF K mg ["Token"] "kind") (g_NAME : GStr mg "NAME" "name") (M_Parser_take : MethOOk P w K mg base "Parser" "take" 4 2 [] F_Parser_take) : FnOk P w K mg base (L2N.CX P w) 5 f fd ["self"] (spO K mg 1 F_Parser_take_names) := by
  refine fn_C Fn sc_Parser_take_names (fun cdv A outer s H E B hr => ?_)
  have tk := L2N.takes_of (X := cxOf (L2N.CX P w) P w K mg base ["self", "tokens"] "Parser.take_names" (defScope (inClass (top 41) 6)) f cdv A outer s H E) (E := E) rfl rfl rfl rfl
  have hp := passes_of (X := cxOf (L2N.CX P w) P w K mg base ["self", "tokens"] "Parser.take_names" (defScope (inClass (top 41) 6)) f cdv A outer s H E) (K := fun e s'' => L2N.CX P w outer H s E e s'') rfl
  exact (qss_cons (qs_set (i := 1) (qe_lstO (qa_cons (qe_mO M_Parser_take hr (by decide) tk (qe_var 0) (qa_cons (qe_gStr g_NAME) qa_nil)) qa_nil)) sc_Parser_take_names.nd)
      (qss_cons (qs_while hp (qt_cmp (op_eqD hr.units) os_eq (qe_fld c_Token_kind (qe_mO0 M_Parser_peek hr (by decide) tk (qe_var 0))) (qe_gStr g_NAME) (nomark _)) (qss_one (qs_expr (qe_bm PySem.F.plainAttrs_list PySem.F.slot_list_append PySem.F.type_list_append mt_append ms_append (qe_var 1) (qa_cons (qe_mO M_Parser_take hr (by decide) tk (qe_var 0) (qa_cons (qe_gStr g_NAME) qa_nil)) qa_nil)))))
      (qss_cons (qs_expr (qe_mO M_Parser_take_word hr (by decide) tk (qe_var 0) (qa_cons (qe_gStr g_END_SIGN) qa_nil)))
      (qss_one (qs_ret (qe_frz (qe_var 1)))))))
theorem sc_Parser_valve : FnScope ["self", "token"] ["self", "token"] (defScope (inClass (top 41) 7)) := ⟨rfl, rfl, rfl, by decide +kernel, rfl, by decide +kernel, by decide +kernel⟩
theorem ok_Parser_valve {f : Addr} {fd : FuncData} {dvs : List V} {kws : List (Str × V)} (Fn : FunD K "valve" "Parser.valve" (defArgs (inClass (top 41) 7)) (defBody (inClass (top 41) 7)) (defScope (inClass (top 41) 7)) dvs kws f fd) (M_Parser_found : MethOOk P w K mg base "Parser" "found" 1 3 [] F_Parser_found) (c_Token_text : ClsF K mg ["Token"] "text") (c_Parser_names : ClsF K mg ["Parser"] "names") : FnOk P w K mg base (L2N.CX P w) 2 f fd ["self", "token"] (spO K mg 2 F_Parser_valve) := by
  refine fn_C Fn sc_Parser_valve (fun cdv A outer s H E B hr => ?_)
  have tk := L2N.takes_of (X := cxOf (L2N.CX P w) P w K mg base ["self", "token"] "Parser.valve" (defScope (inClass (top 41) 7)) f cdv A outer s H E) (E := E) rfl rfl rfl rfl
  have hp := passes_of (X := cxOf (L2N.CX P w) P w K mg base ["self", "token"] "Parser.valve" (defScope (inClass (top 41) 7)) f cdv A outer s H E) (K := fun e s'' => L2N.CX P w outer H s E e s'') rfl
  exact (qss_cons (qs_if (qt_cmp (op_inA (hu65 hr)) os_in (qe_fld c_Token_text (qe_var 1)) (qe_fld c_Parser_names (qe_var 0)) (by with_unfolding_all rfl)) (qss_one (qs_ret (qe_bm PySem.F.plainAttrs_list PySem.F.slot_list_index PySem.F.type_list_index (mt_indexD (hu65 hr)) ms_index (qe_fld c_Parser_names (qe_var 0)) (qa_cons (qe_fld c_Token_text (qe_var 1)) qa_nil)))) qss_nil)
      (qss_cons (qs_expr (qe_mO M_Parser_found hr (by decide) tk (qe_var 0) (qa_cons qe_str (qa_cons (qe_var 1) qa_nil))))
      (qss_one (qs_ret qe_int))))
end
end G
namespace G
open PySem L2 Cl
section
variable {P : Program} {w : World} {K : PySem.W.Frag} {mg : Str → Option Value} {base : Heap}
theorem sc_Parser_parse_rank : FnScope ["self", "keyword", "ranks", "token", "valve"] ["self"] (defScope (inClass (top 41) 12)) := ⟨rfl, rfl, rfl, by decide +kernel, rfl, by decide +kernel, by decide +kernel⟩
theorem ok_Parser_parse_rank {f : Addr} {fd : FuncData} {dvs : List V} {kws : List (Str × V)} (Fn : FunD K "parse_rank" "Parser.parse_rank" (defArgs (inClass (top 41) 12)) (defBody (inClass (top 41) 12)) (defScope (inClass (top 41) 12)) dvs kws f fd) (c_Parser_ranks : ClsF K mg ["Parser"] "ranks") (M_Parser_found : MethOOk P w K mg base "Parser" "found" 1 3 [] F_Parser_found) (M_Parser_take_names : MethOOk P w K mg base "Parser" "take_names" 5 1 [] F_Parser_take_names) (c_Token_text : ClsF K mg ["Token"] "text") (c_Parser_names : ClsF K mg ["Parser"] "names") (M_Parser_valve : MethOOk P w K mg base "Parser" "valve" 2 2 [] F_Parser_valve) (M_Parser_take_word : MethOOk P w K mg base "Parser" "take_word" 4 2 [] F_Parser_take_word) (M_Parser_peek : MethOOk P w K mg base "Parser" "peek" 1 1 [] F_Parser_peek) : FnOk P w K mg base (L2N.CX P w) 6 f fd ["self"] (spO K mg 1 F_Parser_parse_rank) := by
  refine fn_C Fn sc_Parser_parse_rank (fun cdv A outer s H E B hr => ?_)
  have tk := L2N.takes_of (X := cxOf (L2N.CX P w) P w K mg base ["self", "keyword", "ranks", "token", "valve"] "Parser.parse_rank" (defScope (inClass (top 41) 12)) f cdv A outer s H E) (E := E) rfl rfl rfl rfl
  have hp := passes_of (X := cxOf (L2N.CX P w) P w K mg base ["self", "keyword", "ranks", "token", "valve"] "Parser.parse_rank" (defScope (inClass (top 41) 12)) f cdv A outer s H E) (K := fun e s'' => L2N.CX P w outer H s E e s'') rfl
  exact (qss_cons (qs_set (i := 1) (qe_mO0 M_Parser_peek hr (by decide) tk (qe_var 0)) sc_Parser_parse_rank.nd)
      (qss_cons (qs_expr (qe_mO M_Parser_take_word hr (by decide) tk (qe_var 0) (qa_cons qe_str qa_nil)))
      (qss_cons (qs_set (i := 2) (qe_lstO qa_nil) sc_Parser_parse_rank.nd)
      (qss_cons (qs_for hp rfl (qi_seq (qe_mO0 M_Parser_take_names hr (by decide) tk (qe_var 0))) (qg_name (i := 3) sc_Parser_parse_rank.nd) (qss_cons (qs_set (i := 4) (qe_mO M_Parser_valve hr (by decide) tk (qe_var 0) (qa_cons (qe_var 3) qa_nil)) sc_Parser_parse_rank.nd)
      (qss_cons (qs_if (PW.pt (qw_and (qt_cmp (op_inA (hu65 hr)) os_in (qe_fld c_Token_text (qe_var 3)) (qe_fld c_Parser_names (qe_var 0)) (by with_unfolding_all rfl)) (qw_and1 (qt_cmp (op_inA (hu65 hr)) os_in (qe_var 4) (qe_var 2) (by with_unfolding_all rfl))))) (qss_one (qs_expr (qe_mO M_Parser_found hr (by decide) tk (qe_var 0) (qa_cons qe_str (qa_cons (qe_var 3) qa_nil))))) qss_nil)
      (qss_one (qs_expr (qe_bm PySem.F.plainAttrs_list PySem.F.slot_list_append PySem.F.type_list_append mt_append ms_append (qe_var 2) (qa_cons (qe_var 4) qa_nil)))))))
      (qss_cons (qs_if (qt_cmp op_notN os_notN (qe_fld c_Parser_ranks (qe_var 0)) qe_non (nomark _)) (qss_one (qs_expr (qe_mO M_Parser_found hr (by decide) tk (qe_var 0) (qa_cons qe_str (qa_cons (qe_var 1) qa_nil))))) qss_nil)
      (qss_one (qs_fld c_Parser_ranks (qe_var 0) (qe_frz (qe_var 2)))))))))
theorem sc_Parser_parse_pause : FnScope ["self", "length", "first", "last"] ["self", "length"] (defScope (inClass (top 41) 11)) := ⟨rfl, rfl, rfl, by decide +kernel, rfl, by decide +kernel, by decide +kernel⟩
theorem ok_Parser_parse_pause {f : Addr} {fd : FuncData} {dvs : List V} {kws : List (Str × V)} (Fn : FunD K "parse_pause" "Parser.parse_pause" (defArgs (inClass (top 41) 11)) (defBody (inClass (top 41) 11)) (defScope (inClass (top 41) 11)) dvs kws f fd) (c_Parser_pauses : ClsF K mg ["Parser"] "pauses") (z_int : mg "int" = none) (c_Token_text : ClsF K mg ["Token"] "text") (M_Parser_found : MethOOk P w K mg base "Parser" "found" 1 3 [] F_Parser_found) (M_Parser_take_word : MethOOk P w K mg base "Parser" "take_word" 4 2 [] F_Parser_take_word) (g_END_SIGN : GStr mg "END_SIGN" ";") (M_Parser_take : MethOOk P w K mg base "Parser" "take" 4 2 [] F_Parser_take) (g_NUMBER : GStr mg "NUMBER" "number") : FnOk P w K mg base (L2N.CX P w) 5 f fd ["self", "length"] (spO K mg 2 F_Parser_parse_pause) := by
  refine fn_C Fn sc_Parser_parse_pause (fun cdv A outer s H E B hr => ?_)
  have tk := L2N.takes_of (X := cxOf (L2N.CX P w) P w K mg base ["self", "length", "first", "last"] "Parser.parse_pause" (defScope (inClass (top 41) 11)) f cdv A outer s H E) (E := E) rfl rfl rfl rfl
  have hp := passes_of (X := cxOf (L2N.CX P w) P w K mg base ["self", "length", "first", "last"] "Parser.parse_pause" (defScope (inClass (top 41) 11)) f cdv A outer s H E) (K := fun e s'' => L2N.CX P w outer H s E e s'') rfl
  exact (qss_cons (qs_expr (qe_mO M_Parser_take_word hr (by decide) tk (qe_var 0) (qa_cons qe_str qa_nil)))
      (qss_cons (qs_par (i := 2) (j := 3) rfl sc_Parser_parse_pause.nd (by decide) (qa_cons (qe_mO M_Parser_take hr (by decide) tk (qe_var 0) (qa_cons (qe_gStr g_NUMBER) qa_nil)) (qa_cons (qe_mO M_Parser_take hr (by decide) tk (qe_var 0) (qa_cons (qe_gStr g_NUMBER) qa_nil)) qa_nil)) rfl)
      (qss_cons (qs_expr (qe_mO M_Parser_take_word hr (by decide) tk (qe_var 0) (qa_cons (qe_gStr g_END_SIGN) qa_nil)))
      (qss_cons (qs_if (qt_cmp op_ge os_ge (qe_callTy call_intA cs_int z_int (by decide +kernel) (qa_cons (qe_fld c_Token_text (qe_var 3)) qa_nil)) (qe_var 1) (nomark _)) (qss_one (qs_expr (qe_mO M_Parser_found hr (by decide) tk (qe_var 0) (qa_cons qe_str (qa_cons (qe_var 3) qa_nil))))) (qss_one (qs_if (qt_cmp op_gt os_gt (qe_callTy call_intA cs_int z_int (by decide +kernel) (qa_cons (qe_fld c_Token_text (qe_var 2)) qa_nil)) (qe_callTy call_intA cs_int z_int (by decide +kernel) (qa_cons (qe_fld c_Token_text (qe_var 3)) qa_nil)) (nomark _)) (qss_one (qs_expr (qe_mO M_Parser_found hr (by decide) tk (qe_var 0) (qa_cons qe_str (qa_cons (qe_var 2) qa_nil))))) qss_nil)))
      (qss_one (qs_expr (qe_bm PySem.F.plainAttrs_list PySem.F.slot_list_append PySem.F.type_list_append mt_append ms_append (qe_fld c_Parser_pauses (qe_var 0)) (qa_cons (qe_tup (qa_cons (qe_callTy call_intA cs_int z_int (by decide +kernel) (qa_cons (qe_fld c_Token_text (qe_var 2)) qa_nil)) (qa_cons (qe_callTy call_intA cs_int z_int (by decide +kernel) (qa_cons (qe_fld c_Token_text (qe_var 3)) qa_nil)) qa_nil))) qa_nil))))))))
theorem sc_Parser_parse_start : FnScope ["self", "length", "keyword", "valve", "tick", "water"] ["self", "length"] (defScope (inClass (top 41) 10)) := ⟨rfl, rfl, rfl, by decide +kernel, rfl, by decide +kernel, by decide +kernel⟩
theorem ok_Parser_parse_start {f : Addr} {fd : FuncData} {dvs : List V} {kws : List (Str × V)} (Fn : FunD K "parse_start" "Parser.parse_start" (defArgs (inClass (top 41) 10)) (defBody (inClass (top 41) 10)) (defScope (inClass (top 41) 10)) dvs kws f fd) (c_Parser_starts : ClsF K mg ["Parser"] "starts") (z_int : mg "int" = none) (c_Token_text : ClsF K mg ["Token"] "text") (z_len : mg "len" = none) (g_MAX_STARTS : GInt mg "MAX_STARTS" 20) (M_Parser_found : MethOOk P w K mg base "Parser" "found" 1 3 [] F_Parser_found) (g_MAX_LENGTH : GInt mg "MAX_LENGTH" 30) (M_Parser_take_word : MethOOk P w K mg base "Parser" "take_word" 4 2 [] F_Parser_take_word) (g_END_SIGN : GStr mg "END_SIGN" ";") (M_Parser_take : MethOOk P w K mg base "Parser" "take" 4 2 [] F_Parser_take) (g_NUMBER : GStr mg "NUMBER" "number") (M_Parser_valve : MethOOk P w K mg base "Parser" "valve" 2 2 [] F_Parser_valve) (g_NAME : GStr mg "NAME" "name") (M_Parser_peek : MethOOk P w K mg base "Parser" "peek" 1 1 [] F_Parser_peek) : FnOk P w K mg base (L2N.CX P w) 5 f fd ["self", "length"] (spO K mg 2 F_Parser_parse_start) := by
  refine fn_C Fn sc_Parser_parse_start (fun cdv A outer s H E B hr => ?_)
  have tk := L2N.takes_of (X := cxOf (L2N.CX P w) P w K mg base ["self", "length", "keyword", "valve", "tick", "water"] "Parser.parse_start" (defScope (inClass (top 41) 10)) f cdv A outer s H E) (E := E) rfl rfl rfl rfl
  have hp := passes_of (X := cxOf (L2N.CX P w) P w K mg base ["self", "length", "keyword", "valve", "tick", "water"] "Parser.parse_start" (defScope (inClass (top 41) 10)) f cdv A outer s H E) (K := fun e s'' => L2N.CX P w outer H s E e s'') rfl
  exact (qss_cons (qs_set (i := 2) (qe_mO0 M_Parser_peek hr (by decide) tk (qe_var 0)) sc_Parser_parse_start.nd)
      (qss_cons (qs_expr (qe_mO M_Parser_take_word hr (by decide) tk (qe_var 0) (qa_cons qe_str qa_nil)))
      (qss_cons (qs_set (i := 3) (qe_mO M_Parser_valve hr (by decide) tk (qe_var 0) (qa_cons (qe_mO M_Parser_take hr (by decide) tk (qe_var 0) (qa_cons (qe_gStr g_NAME) qa_nil)) qa_nil)) sc_Parser_parse_start.nd)
      (qss_cons (qs_set (i := 4) (qe_mO M_Parser_take hr (by decide) tk (qe_var 0) (qa_cons (qe_gStr g_NUMBER) qa_nil)) sc_Parser_parse_start.nd)
      (qss_cons (qs_expr (qe_mO M_Parser_take_word hr (by decide) tk (qe_var 0) (qa_cons qe_str qa_nil)))
      (qss_cons (qs_set (i := 5) (qe_mO M_Parser_take hr (by decide) tk (qe_var 0) (qa_cons (qe_gStr g_NUMBER) qa_nil)) sc_Parser_parse_start.nd)
      (qss_cons (qs_expr (qe_mO M_Parser_take_word hr (by decide) tk (qe_var 0) (qa_cons (qe_gStr g_END_SIGN) qa_nil)))
      (qss_cons (qs_if (qt_cmp op_ge os_ge (qe_callTy call_intA cs_int z_int (by decide +kernel) (qa_cons (qe_fld c_Token_text (qe_var 4)) qa_nil)) (qe_var 1) (nomark _)) (qss_one (qs_expr (qe_mO M_Parser_found hr (by decide) tk (qe_var 0) (qa_cons qe_str (qa_cons (qe_var 4) qa_nil))))) qss_nil)
      (qss_cons (qs_if (qt_not (qt_chain op_le os_le op_le os_le qe_int (qe_callTy call_intA cs_int z_int (by decide +kernel) (qa_cons (qe_fld c_Token_text (qe_var 5)) qa_nil)) (qe_gInt g_MAX_LENGTH))) (qss_one (qs_expr (qe_mO M_Parser_found hr (by decide) tk (qe_var 0) (qa_cons qe_str (qa_cons (qe_var 5) qa_nil))))) qss_nil)
      (qss_cons (qs_if (qt_cmp (op_eqD hr.units) os_eq (qe_callB call_lenA cs_len z_len PySem.boot_len (qa_cons (qe_fld c_Parser_starts (qe_var 0)) qa_nil)) (qe_gInt g_MAX_STARTS) (nomark _)) (qss_one (qs_expr (qe_mO M_Parser_found hr (by decide) tk (qe_var 0) (qa_cons qe_str (qa_cons (qe_var 2) qa_nil))))) qss_nil)
      (qss_one (qs_expr (qe_bm PySem.F.plainAttrs_list PySem.F.slot_list_append PySem.F.type_list_append mt_append ms_append (qe_fld c_Parser_starts (qe_var 0)) (qa_cons (qe_tup (qa_cons (qe_callTy call_intA cs_int z_int (by decide +kernel) (qa_cons (qe_fld c_Token_text (qe_var 4)) qa_nil)) (qa_cons (qe_var 3) (qa_cons (qe_callTy call_intA cs_int z_int (by decide +kernel) (qa_cons (qe_fld c_Token_text (qe_var 5)) qa_nil)) qa_nil)))) qa_nil))))))))))))))
theorem sc_Parser_parse_valves : FnScope ["self", "token"] ["self"] (defScope (inClass (top 41) 9)) := ⟨rfl, rfl, rfl, by decide +kernel, rfl, by decide +kernel, by decide +kernel⟩
theorem ok_Parser_parse_valves {f : Addr} {fd : FuncData} {dvs : List V} {kws : List (Str × V)} (Fn : FunD K "parse_valves" "Parser.parse_valves" (defArgs (inClass (top 41) 9)) (defBody (inClass (top 41) 9)) (defScope (inClass (top 41) 9)) dvs kws f fd) (M_Parser_take_names : MethOOk P w K mg base "Parser" "take_names" 5 1 [] F_Parser_take_names) (c_Token_text : ClsF K mg ["Token"] "text") (c_Parser_names : ClsF K mg ["Parser"] "names") (M_Parser_found : MethOOk P w K mg base "Parser" "found" 1 3 [] F_Parser_found) (z_len : mg "len" = none) (g_MAX_VALVES : GInt mg "MAX_VALVES" 8) (M_Parser_take_word : MethOOk P w K mg base "Parser" "take_word" 4 2 [] F_Parser_take_word) : FnOk P w K mg base (L2N.CX P w) 6 f fd ["self"] (spO K mg 1 F_Parser_parse_valves) := by
  refine fn_C Fn sc_Parser_parse_valves (fun cdv A outer s H E B hr => ?_)
  have tk := L2N.takes_of (X := cxOf (L2N.CX P w) P w K mg base ["self", "token"] "Parser.parse_valves" (defScope (inClass (top 41) 9)) f cdv A outer s H E) (E := E) rfl rfl rfl rfl
  have hp := passes_of (X := cxOf (L2N.CX P w) P w K mg base ["self", "token"] "Parser.parse_valves" (defScope (inClass (top 41) 9)) f cdv A outer s H E) (K := fun e s'' => L2N.CX P w outer H s E e s'') rfl
  exact (qss_cons (qs_expr (qe_mO M_Parser_take_word hr (by decide) tk (qe_var 0) (qa_cons qe_str qa_nil)))
      (qss_one (qs_for hp rfl (qi_seq (qe_mO0 M_Parser_take_names hr (by decide) tk (qe_var 0))) (qg_name (i := 1) sc_Parser_parse_valves.nd) (qss_one (qs_if (qt_cmp (op_inA (hu65 hr)) os_in (qe_fld c_Token_text (qe_var 1)) (qe_fld c_Parser_names (qe_var 0)) (by with_unfolding_all rfl)) (qss_one (qs_expr (qe_mO M_Parser_found hr (by decide) tk (qe_var 0) (qa_cons qe_str (qa_cons (qe_var 1) qa_nil))))) (qss_one (qs_if (qt_cmp (op_eqD hr.units) os_eq (qe_callB call_lenA cs_len z_len PySem.boot_len (qa_cons (qe_fld c_Parser_names (qe_var 0)) qa_nil)) (qe_gInt g_MAX_VALVES) (nomark _)) (qss_one (qs_expr (qe_mO M_Parser_found hr (by decide) tk (qe_var 0) (qa_cons qe_str (qa_cons (qe_var 1) qa_nil))))) (qss_one (qs_expr (qe_bm PySem.F.plainAttrs_list PySem.F.slot_list_append PySem.F.type_list_append mt_append ms_append (qe_fld c_Parser_names (qe_var 0)) (qa_cons (qe_fld c_Token_text (qe_var 1)) qa_nil)))))))))))
theorem sc_Parser_parse_number : FnScope ["self", "word", "high", "token"] ["self", "word", "high"] (defScope (inClass (top 41) 8)) := ⟨rfl, rfl, rfl, by decide +kernel, rfl, by decide +kernel, by decide +kernel⟩
theorem ok_Parser_parse_number {f : Addr} {fd : FuncData} {dvs : List V} {kws : List (Str × V)} (Fn : FunD K "parse_number" "Parser.parse_number" (defArgs (inClass (top 41) 8)) (defBody (inClass (top 41) 8)) (defScope (inClass (top 41) 8)) dvs kws f fd) (z_int : mg "int" = none) (c_Token_text : ClsF K mg ["Token"] "text") (M_Parser_found : MethOOk P w K mg base "Parser" "found" 1 3 [] F_Parser_found) (M_Parser_take_word : MethOOk P w K mg base "Parser" "take_word" 4 2 [] F_Parser_take_word) (g_END_SIGN : GStr mg "END_SIGN" ";") (M_Parser_take : MethOOk P w K mg base "Parser" "take" 4 2 [] F_Parser_take) (g_NUMBER : GStr mg "NUMBER" "number") : FnOk P w K mg base (L2N.CX P w) 5 f fd ["self", "word", "high"] (spO K mg 3 F_Parser_parse_number) := by
  refine fn_C Fn sc_Parser_parse_number (fun cdv A outer s H E B hr => ?_)
  have tk := L2N.takes_of (X := cxOf (L2N.CX P w) P w K mg base ["self", "word", "high", "token"] "Parser.parse_number" (defScope (inClass (top 41) 8)) f cdv A outer s H E) (E := E) rfl rfl rfl rfl
  have hp := passes_of (X := cxOf (L2N.CX P w) P w K mg base ["self", "word", "high", "token"] "Parser.parse_number" (defScope (inClass (top 41) 8)) f cdv A outer s H E) (K := fun e s'' => L2N.CX P w outer H s E e s'') rfl
  exact (qss_cons (qs_expr (qe_mO M_Parser_take_word hr (by decide) tk (qe_var 0) (qa_cons (qe_var 1) qa_nil)))
      (qss_cons (qs_set (i := 3) (qe_mO M_Parser_take hr (by decide) tk (qe_var 0) (qa_cons (qe_gStr g_NUMBER) qa_nil)) sc_Parser_parse_number.nd)
      (qss_cons (qs_expr (qe_mO M_Parser_take_word hr (by decide) tk (qe_var 0) (qa_cons (qe_gStr g_END_SIGN) qa_nil)))
      (qss_cons (qs_if (qt_not (qt_chain op_le os_le op_le os_le qe_int (qe_callTy call_intA cs_int z_int (by decide +kernel) (qa_cons (qe_fld c_Token_text (qe_var 3)) qa_nil)) (qe_var 2))) (qss_one (qs_expr (qe_mO M_Parser_found hr (by decide) tk (qe_var 0) (qa_cons (qe_var 1) (qa_cons (qe_var 3) qa_nil))))) qss_nil)
      (qss_one (qs_ret (qe_callTy call_intA cs_int z_int (by decide +kernel) (qa_cons (qe_fld c_Token_text (qe_var 3)) qa_nil))))))))
theorem sc_Parser_parse_planM : FnScope ["self", "length", "most", "line", "column", "number", "reason", "paused", "first", "last", "tick", "ranks", "valve", "starts"] ["self"] (defScope (inClass (top 41) 13)) := ⟨rfl, rfl, rfl, by decide +kernel, rfl, by decide +kernel, by decide +kernel⟩
theorem ok_Parser_parse_planM {f : Addr} {fd : FuncData} {dvs : List V} {kws : List (Str × V)} (Fn : FunD K "parse_plan" "Parser.parse_plan" (defArgs (inClass (top 41) 13)) (defBody (inClass (top 41) 13)) (defScope (inClass (top 41) 13)) dvs kws f fd) (Lam : LamOk K mg base fd "Parser.parse_plan") (z_tuple : mg "tuple" = none) (c_Parser_names : ClsF K mg ["Parser"] "names") (K_Plan : MakeMOk P w K mg base "Plan" 1 7 [] F_Plan_init) (z_sorted : mg "sorted" = none) (c_Parser_starts : ClsF K mg ["Parser"] "starts") (z_len : mg "len" = none) (z_range : mg "range" = none) (c_Parser_ranks : ClsF K mg ["Parser"] "ranks") (z_any : mg "any" = none) (c_Parser_pauses : ClsF K mg ["Parser"] "pauses") (c_Parser_faults : ClsF K mg ["Parser"] "faults") (R_CheckFault : RaiseXOk P w K mg base "CheckFault" ["reason", "line", "column"] 1) (z_min : mg "min" = none) (M_Parser_peek : MethOOk P w K mg base "Parser" "peek" 1 1 [] F_Parser_peek) (c_Token_kind : ClsF K mg ["Token"] "kind") (g_END : GStr mg "END" "end") (c_Token_text : ClsF K mg ["Token"] "text") (M_Parser_fail : MethOOk P w K mg base "Parser" "fail" 3 1 [] F_Parser_fail) (M_Parser_parse_rank : MethOOk P w K mg base "Parser" "parse_rank" 6 1 [] F_Parser_parse_rank) (M_Parser_parse_pause : MethOOk P w K mg base "Parser" "parse_pause" 5 2 [] F_Parser_parse_pause) (M_Parser_parse_start : MethOOk P w K mg base "Parser" "parse_start" 5 2 [] F_Parser_parse_start) (M_Parser_parse_valves : MethOOk P w K mg base "Parser" "parse_valves" 6 1 [] F_Parser_parse_valves) (M_Parser_parse_number : MethOOk P w K mg base "Parser" "parse_number" 5 3 [] F_Parser_parse_number) (g_MAX_OPEN : GInt mg "MAX_OPEN" 9) (g_MAX_ROUND : GInt mg "MAX_ROUND" 60) : FnOk P w K mg base (L2N.CX P w) 7 f fd ["self"] (spO K mg 1 F_Parser_parse_planM) := by
  obtain ⟨c, PT, hcode, TB, it⟩ := Lam
  refine fn_CL Fn sc_Parser_parse_planM (fun cdv A outer s H E B hcd hr => ?_)
  have tk := L2N.takes_of (X := cxOf (L2N.CX P w) P w K mg base ["self", "length", "most", "line", "column", "number", "reason", "paused", "first", "last", "tick", "ranks", "valve", "starts"] "Parser.parse_plan" (defScope (inClass (top 41) 13)) f cdv A outer s H E) (E := E) rfl rfl rfl rfl
  have hp := passes_of (X := cxOf (L2N.CX P w) P w K mg base ["self", "length", "most", "line", "column", "number", "reason", "paused", "first", "last", "tick", "ranks", "valve", "starts"] "Parser.parse_plan" (defScope (inClass (top 41) 13)) f cdv A outer s H E) (K := fun e s'' => L2N.CX P w outer H s E e s'') rfl
  exact (qss_cons (qs_set (i := 1) (qe_mO M_Parser_parse_number hr (by decide) tk (qe_var 0) (qa_cons qe_str (qa_cons (qe_gInt g_MAX_ROUND) qa_nil))) sc_Parser_parse_planM.nd)
      (qss_cons (qs_set (i := 2) (qe_mO M_Parser_parse_number hr (by decide) tk (qe_var 0) (qa_cons qe_str (qa_cons (qe_gInt g_MAX_OPEN) qa_nil))) sc_Parser_parse_planM.nd)
      (qss_cons (qs_expr (qe_mO0 M_Parser_parse_valves hr (by decide) tk (qe_var 0)))
      (qss_cons (qs_while hp (qt_cmp (op_neD hr.units) os_ne (qe_fld c_Token_kind (qe_mO0 M_Parser_peek hr (by decide) tk (qe_var 0))) (qe_gStr g_END) (nomark _)) (qss_one (qs_match (qe_fld c_Token_text (qe_mO0 M_Parser_peek hr (by decide) tk (qe_var 0))) (qmc_val (op_eqD hr.units) os_eq qe_str (qss_one (qs_expr (qe_mO M_Parser_parse_start hr (by decide) tk (qe_var 0) (qa_cons (qe_var 1) qa_nil)))) (qmc_val (op_eqD hr.units) os_eq qe_str (qss_one (qs_expr (qe_mO M_Parser_parse_pause hr (by decide) tk (qe_var 0) (qa_cons (qe_var 1) qa_nil)))) (qmc_val (op_eqD hr.units) os_eq qe_str (qss_one (qs_expr (qe_mO0 M_Parser_parse_rank hr (by decide) tk (qe_var 0)))) (qmc_any (qss_one (qs_expr (qe_mO0 M_Parser_fail hr (by decide) tk (qe_var 0)))))))))))
      (qss_cons (qs_if (qt_cmp (op_neD hr.units) os_ne (qe_fld c_Parser_faults (qe_var 0)) (qe_lst qa_nil) (nomark _)) (qss_cons (qs_asg (qe_callB (cr_minD rfl (hu65 hr)) cs_minD z_min (by decide +kernel) (qa_cons (qe_fld c_Parser_faults (qe_var 0)) qa_nil)) (qg_tup rfl (qgs_cons (qg_name (i := 3) sc_Parser_parse_planM.nd) (qgs_cons (qg_name (i := 4) sc_Parser_parse_planM.nd) (qgs_cons (qg_name (i := 5) sc_Parser_parse_planM.nd) (qgs_cons (qg_name (i := 6) sc_Parser_parse_planM.nd) qgs_nil))))))
      (qss_one (qs_rX R_CheckFault rfl hr (by decide) tk (qa_cons (qe_var 6) (qa_cons (qe_var 3) (qa_cons (qe_var 4) qa_nil)))))) qss_nil)
      (qss_cons (qs_setLc (i := 7) rfl sc_Parser_parse_planM.nd (qi_range1 z_range (qa_cons (qe_var 1) qa_nil)) (blkOk_by (own := [("tick", 10)]) rfl) (cg_name (by decide)) (fun _ _ _ _ _ => (pg_name (i := 10) sc_Parser_parse_planM.nd rfl (by first | exact Or.inl rfl | exact Or.inr rfl))) (fun B _ _ _ _ _ => qts_nil) (fun B _ _ _ _ _ => (qe_callB (cr_any rfl) cs_any z_any (by decide +kernel) (qa_cons (qe_lc rfl sc_Parser_parse_planM.nd (qi_seq (qe_fld c_Parser_pauses (qe_var 0))) (blkOk_by (own := [("first", 8), ("last", 9)]) rfl) (cg_tup (cgs_cons (cg_name (by decide)) (cgs_cons (cg_name (by decide)) cgs_nil))) (fun _ _ _ _ _ => (pg_tup rfl (pgs_cons (pg_name (i := 8) sc_Parser_parse_planM.nd rfl (by first | exact Or.inl rfl | exact Or.inr rfl)) (pgs_cons (pg_name (i := 9) sc_Parser_parse_planM.nd rfl (by first | exact Or.inl rfl | exact Or.inr rfl)) pgs_nil)))) (fun B _ _ _ _ _ => qts_nil) (fun B _ _ _ _ _ => (qe_chain op_le os_le op_le os_le (qe_var 8) (qe_var 10) (qe_var 9)))) qa_nil))) (sw_true rfl rfl rfl (by decide +kernel)))
      (qss_cons (qs_set (i := 11) (qe_ifExp (qt_cmp op_notN os_notN (qe_fld c_Parser_ranks (qe_var 0)) qe_non (nomark _)) (qe_fld c_Parser_ranks (qe_var 0)) (qe_lst qa_nil)) sc_Parser_parse_planM.nd)
      (qss_cons (qs_set (i := 11) (qe_op op_addA os_add (qe_var 11) (qe_lc rfl sc_Parser_parse_planM.nd (qi_range1 z_range (qa_cons (qe_callB call_lenA cs_len z_len PySem.boot_len (qa_cons (qe_fld c_Parser_names (qe_var 0)) qa_nil)) qa_nil)) (blkOk_by (own := [("valve", 12)]) rfl) (cg_name (by decide)) (fun _ _ _ _ _ => (pg_name (i := 12) sc_Parser_parse_planM.nd rfl (by first | exact Or.inl rfl | exact Or.inr rfl))) (fun B _ _ _ _ _ => (qts_one (qt_cmp (op_notInA (hu65 hr)) os_notIn (qe_var 12) (qe_var 11) (by with_unfolding_all rfl)))) (fun B _ _ _ _ _ => (qe_var 12)))) sc_Parser_parse_planM.nd)
      (qss_cons (qs_set (i := 13) (qe_sortLam (k := 0) (hr.mono (by decide)) TB (hcd.symm.trans hcode) it z_sorted (qe_fld c_Parser_starts (qe_var 0))) sc_Parser_parse_planM.nd)
      (qss_one (qs_ret (qe_kM K_Plan hr (by decide) tk (qa_cons (qe_var 1) (qa_cons (qe_var 2) (qa_cons (qe_callTy call_tuple_ofF cs_tuple z_tuple (by decide +kernel) (qa_cons (qe_fld c_Parser_names (qe_var 0)) qa_nil)) (qa_cons (qe_var 13) (qa_cons (qe_var 7) (qa_cons (qe_var 11) qa_nil))))))))))))))))))
theorem sc_loadM : FnScope ["plan"] ["plan"] (defScope (top 42)) := ⟨rfl, rfl, rfl, by decide +kernel, rfl, by decide +kernel, by decide +kernel⟩
theorem ok_loadM {f : Addr} {fd : FuncData} {dvs : List V} {kws : List (Str × V)} (Fn : FunD K "load" "load" (defArgs (top 42)) (defBody (top 42)) (defScope (top 42)) dvs kws f fd) (C_tokenize : CallPOk P w K mg base "tokenize" 4 1 [] F_tokenize) (K_Parser : MakeOOk P w K mg base "Parser" 1 2 [] F_Parser_init) (M_Parser_parse_plan : MethOOk P w K mg base "Parser" "parse_plan" 7 1 [] F_Parser_parse_planM) : FnOk P w K mg base (L2N.CX P w) 8 f fd ["plan"] (spP K mg 1 F_loadM) := by
  refine fn_P Fn sc_loadM (fun cdv A outer s H E B hr => ?_)
  have tk := L2N.takes_of (X := cxOf (L2N.CX P w) P w K mg base ["plan"] "load" (defScope (top 42)) f cdv A outer s H E) (E := E) rfl rfl rfl rfl
  have hp := passes_of (X := cxOf (L2N.CX P w) P w K mg base ["plan"] "load" (defScope (top 42)) f cdv A outer s H E) (K := fun e s'' => L2N.CX P w outer H s E e s'') rfl
  exact (qss_one (qs_ret (qe_mO0 M_Parser_parse_plan hr (by decide) tk (qe_kO K_Parser hr (by decide) tk (qa_cons (qe_cP C_tokenize hr (by decide) tk (qa_cons (qe_var 0) qa_nil)) qa_nil)))))
theorem sc_runs_of : FnScope ["paused", "found", "tick", "is_paused"] ["paused"] (defScope (top 44)) := ⟨rfl, rfl, rfl, by decide +kernel, rfl, by decide +kernel, by decide +kernel⟩
theorem ok_runs_of {f : Addr} {fd : FuncData} {dvs : List V} {kws : List (Str × V)} (Fn : FunD K "runs_of" "runs_of" (defArgs (top 44)) (defBody (top 44)) (defScope (top 44)) dvs kws f fd) (z_enumerate : mg "enumerate" = none) : FnOk P w K mg base (L2N.CX P w) 1 f fd ["paused"] (spP K mg 1 F_runs_of) := by
  refine fn_P Fn sc_runs_of (fun cdv A outer s H E B hr => ?_)
  have tk := L2N.takes_of (X := cxOf (L2N.CX P w) P w K mg base ["paused", "found", "tick", "is_paused"] "runs_of" (defScope (top 44)) f cdv A outer s H E) (E := E) rfl rfl rfl rfl
  have hp := passes_of (X := cxOf (L2N.CX P w) P w K mg base ["paused", "found", "tick", "is_paused"] "runs_of" (defScope (top 44)) f cdv A outer s H E) (K := fun e s'' => L2N.CX P w outer H s E e s'') rfl
  exact (qss_cons (qs_set (i := 1) (qe_lstO qa_nil) sc_runs_of.nd)
      (qss_cons (qs_for hp rfl (qi_enum z_enumerate (qa_cons (qe_var 0) qa_nil)) (qg_tup rfl (qgs_cons (qg_name (i := 2) sc_runs_of.nd) (qgs_cons (qg_name (i := 3) sc_runs_of.nd) qgs_nil))) (qss_one (qs_if (PW.pt (qw_and (qt_val (qe_var 3)) (qw_and (qt_cmp op_gt os_gt (qe_var 2) qe_int (nomark _)) (qw_and1 (qt_val (qe_ix ix_seq os_ix (qe_var 0) (qe_op op_sub os_sub (qe_var 2) qe_int))))))) (qss_one (qs_setItem (qe_var 1) (qe_neg qe_int) (qe_tup (qa_cons (qe_ix ix_seq os_ix (qe_ix ix_seq os_ix (qe_var 1) (qe_neg qe_int)) qe_int) (qa_cons (qe_var 2) qa_nil))))) (qss_one (qs_if (qt_val (qe_var 3)) (qss_one (qs_expr (qe_bm PySem.F.plainAttrs_list PySem.F.slot_list_append PySem.F.type_list_append mt_append ms_append (qe_var 1) (qa_cons (qe_tup (qa_cons (qe_var 2) (qa_cons (qe_var 2) qa_nil))) qa_nil)))) qss_nil)))))
      (qss_one (qs_ret (qe_var 1)))))
theorem sc_format_parsed : FnScope ["parsed", "names", "lines", "valve", "tick", "water", "first", "last"] ["parsed"] (defScope (top 45)) := ⟨rfl, rfl, rfl, by decide +kernel, rfl, by decide +kernel, by decide +kernel⟩
theorem ok_format_parsed {f : Addr} {fd : FuncData} {dvs : List V} {kws : List (Str × V)} (Fn : FunD K "format_parsed" "format_parsed" (defArgs (top 45)) (defBody (top 45)) (defScope (top 45)) dvs kws f fd) (c_Plan_paused : ClsF K mg ["Plan"] "paused") (C_runs_of : CallPOk P w K mg base "runs_of" 1 1 [] F_runs_of) (z_str : mg "str" = none) (c_Plan_starts : ClsF K mg ["Plan"] "starts") (c_Plan_ranks : ClsF K mg ["Plan"] "ranks") (z_list : mg "list" = none) (z_len : mg "len" = none) (z_range : mg "range" = none) (c_Plan_most : ClsF K mg ["Plan"] "most") (c_Plan_length : ClsF K mg ["Plan"] "length") (c_Plan_names : ClsF K mg ["Plan"] "names") : FnOk P w K mg base (L2N.CX P w) 2 f fd ["parsed"] (spP K mg 1 F_format_parsed) := by
  refine fn_P Fn sc_format_parsed (fun cdv A outer s H E B hr => ?_)
  have tk := L2N.takes_of (X := cxOf (L2N.CX P w) P w K mg base ["parsed", "names", "lines", "valve", "tick", "water", "first", "last"] "format_parsed" (defScope (top 45)) f cdv A outer s H E) (E := E) rfl rfl rfl rfl
  have hp := passes_of (X := cxOf (L2N.CX P w) P w K mg base ["parsed", "names", "lines", "valve", "tick", "water", "first", "last"] "format_parsed" (defScope (top 45)) f cdv A outer s H E) (K := fun e s'' => L2N.CX P w outer H s E e s'') rfl
  exact (qss_cons (qs_set (i := 1) (qe_fld c_Plan_names (qe_var 0)) sc_format_parsed.nd)
      (qss_cons (qs_set (i := 2) (qe_lstO (qa_cons (qe_op op_addA os_add (qe_op op_addA os_add qe_str (qe_callTy call_str_int cs_str z_str (by decide +kernel) (qa_cons (qe_fld c_Plan_length (qe_var 0)) qa_nil))) qe_str) (qa_cons (qe_op op_addA os_add (qe_op op_addA os_add qe_str (qe_callTy call_str_int cs_str z_str (by decide +kernel) (qa_cons (qe_fld c_Plan_most (qe_var 0)) qa_nil))) qe_str) (qa_cons (qe_op op_addA os_add (qe_op op_addA os_add qe_str (qe_bm PySem.F.plainAttrs_str PySem.F.slot_str_join PySem.F.type_str_join mt_join ms_join qe_str (qa_cons (qe_var 1) qa_nil))) qe_str) qa_nil)))) sc_format_parsed.nd)
      (qss_cons (qs_if (qt_cmp (op_neD hr.units) os_ne (qe_fld c_Plan_ranks (qe_var 0)) (qe_lrg1 rfl z_list z_range (qe_callB call_lenA cs_len z_len PySem.boot_len (qa_cons (qe_var 1) qa_nil))) (nomark _)) (qss_one (qs_expr (qe_bm PySem.F.plainAttrs_list PySem.F.slot_list_append PySem.F.type_list_append mt_append ms_append (qe_var 2) (qa_cons (qe_op op_addA os_add (qe_op op_addA os_add qe_str (qe_bm PySem.F.plainAttrs_str PySem.F.slot_str_join PySem.F.type_str_join mt_join ms_join qe_str (qa_cons (qe_lc rfl sc_format_parsed.nd (qi_seq (qe_fld c_Plan_ranks (qe_var 0))) (blkOk_by (own := [("valve", 3)]) rfl) (cg_name (by decide)) (fun _ _ _ _ _ => (pg_name (i := 3) sc_format_parsed.nd rfl (by first | exact Or.inl rfl | exact Or.inr rfl))) (fun B _ _ _ _ _ => qts_nil) (fun B _ _ _ _ _ => (qe_ix ix_seq os_ix (qe_var 1) (qe_var 3)))) qa_nil))) qe_str) qa_nil)))) qss_nil)
      (qss_cons (qs_for hp rfl (qi_seq (qe_fld c_Plan_starts (qe_var 0))) (qg_tup rfl (qgs_cons (qg_name (i := 4) sc_format_parsed.nd) (qgs_cons (qg_name (i := 3) sc_format_parsed.nd) (qgs_cons (qg_name (i := 5) sc_format_parsed.nd) qgs_nil)))) (qss_one (qs_expr (qe_bm PySem.F.plainAttrs_list PySem.F.slot_list_append PySem.F.type_list_append mt_append ms_append (qe_var 2) (qa_cons (qe_op op_addA os_add (qe_op op_addA os_add (qe_op op_addA os_add (qe_op op_addA os_add (qe_op op_addA os_add (qe_op op_addA os_add qe_str (qe_ix ix_seq os_ix (qe_var 1) (qe_var 3))) qe_str) (qe_callTy call_str_int cs_str z_str (by decide +kernel) (qa_cons (qe_var 4) qa_nil))) qe_str) (qe_callTy call_str_int cs_str z_str (by decide +kernel) (qa_cons (qe_var 5) qa_nil))) qe_str) qa_nil)))))
      (qss_cons (qs_for hp rfl (qi_seq (qe_cP C_runs_of hr (by decide) tk (qa_cons (qe_fld c_Plan_paused (qe_var 0)) qa_nil))) (qg_tup rfl (qgs_cons (qg_name (i := 6) sc_format_parsed.nd) (qgs_cons (qg_name (i := 7) sc_format_parsed.nd) qgs_nil))) (qss_one (qs_expr (qe_bm PySem.F.plainAttrs_list PySem.F.slot_list_append PySem.F.type_list_append mt_append ms_append (qe_var 2) (qa_cons (qe_op op_addA os_add (qe_op op_addA os_add (qe_op op_addA os_add (qe_op op_addA os_add qe_str (qe_callTy call_str_int cs_str z_str (by decide +kernel) (qa_cons (qe_var 6) qa_nil))) qe_str) (qe_callTy call_str_int cs_str z_str (by decide +kernel) (qa_cons (qe_var 7) qa_nil))) qe_str) qa_nil)))))
      (qss_one (qs_ret (qe_bm PySem.F.plainAttrs_str PySem.F.slot_str_join PySem.F.type_str_join mt_join ms_join qe_str (qa_cons (qe_var 2) qa_nil)))))))))
theorem sc_format_planM : FnScope ["plan"] ["plan"] (defScope (top 46)) := ⟨rfl, rfl, rfl, by decide +kernel, rfl, by decide +kernel, by decide +kernel⟩
theorem ok_format_planM {f : Addr} {fd : FuncData} {dvs : List V} {kws : List (Str × V)} (Fn : FunD K "format_plan" "format_plan" (defArgs (top 46)) (defBody (top 46)) (defScope (top 46)) dvs kws f fd) (C_load : CallPOk P w K mg base "load" 8 1 [] F_loadM) (C_format_parsed : CallPOk P w K mg base "format_parsed" 2 1 [] F_format_parsed) : FnOk P w K mg base (L2N.CX P w) 9 f fd ["plan"] (spP K mg 1 F_format_planM) := by
  refine fn_P Fn sc_format_planM (fun cdv A outer s H E B hr => ?_)
  have tk := L2N.takes_of (X := cxOf (L2N.CX P w) P w K mg base ["plan"] "format_plan" (defScope (top 46)) f cdv A outer s H E) (E := E) rfl rfl rfl rfl
  have hp := passes_of (X := cxOf (L2N.CX P w) P w K mg base ["plan"] "format_plan" (defScope (top 46)) f cdv A outer s H E) (K := fun e s'' => L2N.CX P w outer H s E e s'') rfl
  exact (qss_one (qs_ret (qe_cP C_format_parsed hr (by decide) tk (qa_cons (qe_cP C_load hr (by decide) tk (qa_cons (qe_var 0) qa_nil)) qa_nil))))
theorem sc__law_below : FnScope ["_law_d", "_law_limit", "_law_result"] ["_law_d", "_law_limit"] (defScope (top 49)) := ⟨rfl, rfl, rfl, by decide +kernel, rfl, by decide +kernel, by decide +kernel⟩
theorem ok__law_below {f : Addr} {fd : FuncData} {dvs : List V} {kws : List (Str × V)} (Fn : FunD K "_law_below" "_law_below" (defArgs (top 49)) (defBody (top 49)) (defScope (top 49)) dvs kws f fd) (z_len : mg "len" = none) : FnOk P w K mg base (L2N.CX P w) 1 f fd ["_law_d", "_law_limit"] (spO K mg 2 F__law_below) := by
  refine fn_O Fn sc__law_below (fun cdv A outer s H E B hr => ?_)
  have tk := L2N.takes_of (X := cxOf (L2N.CX P w) P w K mg base ["_law_d", "_law_limit", "_law_result"] "_law_below" (defScope (top 49)) f cdv A outer s H E) (E := E) rfl rfl rfl rfl
  have hp := passes_of (X := cxOf (L2N.CX P w) P w K mg base ["_law_d", "_law_limit", "_law_result"] "_law_below" (defScope (top 49)) f cdv A outer s H E) (K := fun e s'' => L2N.CX P w outer H s E e s'') rfl
  exact (qss_cons (qs_if (PW.pt (qw_and (qt_cmp (op_eqD hr.units) os_eq (qe_ix ix_seq os_ix (qe_var 0) qe_int) qe_int (nomark _)) (qw_and1 (qt_cmp op_gt os_gt (qe_callB call_lenA cs_len z_len PySem.boot_len (qa_cons (qe_var 0) qa_nil)) qe_int (nomark _))))) (qss_one (qs_setItem (qe_var 0) qe_int (qe_bm PySem.F.plainAttrs_list PySem.F.slot_list_pop PySem.F.type_list_pop mt_popAt ms_popAt (qe_var 0) (qa_cons qe_int qa_nil)))) qss_nil)
      (qss_cons (qs_if (qt_cmp op_gt os_gt (qe_ix ix_seq os_ix (qe_var 0) qe_int) qe_int (nomark _)) (qss_cons (qs_set (i := 2) (qe_op op_mod os_mod (qe_ix ix_seq os_ix (qe_var 0) qe_int) (qe_var 1)) sc__law_below.nd)
      (qss_cons (qs_setItem (qe_var 0) qe_int (qe_op op_fdiv os_div (qe_ix ix_seq os_ix (qe_var 0) qe_int) (qe_var 1)))
      (qss_one (qs_ret (qe_var 2))))) qss_nil)
      (qss_cons (qs_setItem (qe_var 0) qe_int (qe_op op_mod os_mod (qe_op op_addA os_add (qe_op op_mul os_mulI (qe_ix ix_seq os_ix (qe_var 0) qe_int) qe_int) qe_int) qe_int))
      (qss_one (qs_ret (qe_op op_mod os_mod (qe_op op_fdiv os_div (qe_ix ix_seq os_ix (qe_var 0) qe_int) qe_int) (qe_var 1)))))))
theorem sc__law_faulty : FnScope ["_law_d", "_law_kind", "_law_late", "_law_head", "_law_big", "_law_full"] ["_law_d"] (defScope (top 50)) := ⟨rfl, rfl, rfl, by decide +kernel, rfl, by decide +kernel, by decide +kernel⟩
theorem ok__law_faulty {f : Addr} {fd : FuncData} {dvs : List V} {kws : List (Str × V)} (Fn : FunD K "_law_faulty" "_law_faulty" (defArgs (top 50)) (defBody (top 50)) (defScope (top 50)) dvs kws f fd) (C__law_below : CallOOk P w K mg base "_law_below" 1 2 [] F__law_below) (z_str : mg "str" = none) : FnOk P w K mg base (L2N.CX P w) 2 f fd ["_law_d"] (spO K mg 1 F__law_faulty) := by
  refine fn_O Fn sc__law_faulty (fun cdv A outer s H E B hr => ?_)
  have tk := L2N.takes_of (X := cxOf (L2N.CX P w) P w K mg base ["_law_d", "_law_kind", "_law_late", "_law_head", "_law_big", "_law_full"] "_law_faulty" (defScope (top 50)) f cdv A outer s H E) (E := E) rfl rfl rfl rfl
  have hp := passes_of (X := cxOf (L2N.CX P w) P w K mg base ["_law_d", "_law_kind", "_law_late", "_law_head", "_law_big", "_law_full"] "_law_faulty" (defScope (top 50)) f cdv A outer s H E) (K := fun e s'' => L2N.CX P w outer H s E e s'') rfl
  exact (qss_cons (qs_par (i := 1) (j := 2) rfl sc__law_faulty.nd (by decide) (qa_cons (qe_cO C__law_below hr (by decide) tk (qa_cons (qe_var 0) (qa_cons qe_int qa_nil))) (qa_cons qe_str qa_nil)) rfl)
      (qss_cons (qs_par (i := 3) (j := 4) rfl sc__law_faulty.nd (by decide) (qa_cons qe_str (qa_cons (qe_callTy call_str_int cs_str z_str (by decide +kernel) (qa_cons (qe_op op_addA os_add qe_int (qe_cO C__law_below hr (by decide) tk (qa_cons (qe_var 0) (qa_cons qe_int qa_nil)))) qa_nil)) qa_nil)) rfl)
      (qss_cons (qs_if (qt_cmp (op_eqD hr.units) os_eq (qe_var 1) qe_int (nomark _)) (qss_one (qs_ret (qe_tup (qa_cons (qe_op op_addA os_add (qe_op op_addA os_add (qe_op op_addA os_add qe_str (qe_ix ix_seq os_ix (qe_lst (qa_cons qe_str (qa_cons qe_str (qa_cons qe_str qa_nil)))) (qe_cO C__law_below hr (by decide) tk (qa_cons (qe_var 0) (qa_cons qe_int qa_nil))))) qe_str) (qe_var 2)) (qa_cons qe_str qa_nil))))) qss_nil)
      (qss_cons (qs_if (qt_cmp (op_eqD hr.units) os_eq (qe_var 1) qe_int (nomark _)) (qss_one (qs_ret (qe_tup (qa_cons (qe_op op_addA os_add (qe_op op_addA os_add (qe_op op_addA os_add qe_str (qe_ix ix_seq os_ix (qe_lst (qa_cons qe_str (qa_cons qe_str (qa_cons qe_str qa_nil)))) (qe_cO C__law_below hr (by decide) tk (qa_cons (qe_var 0) (qa_cons qe_int qa_nil))))) qe_str) (qe_var 2)) (qa_cons qe_str qa_nil))))) qss_nil)
      (qss_cons (qs_if (qt_cmp (op_eqD hr.units) os_eq (qe_var 1) qe_int (nomark _)) (qss_one (qs_ret (qe_tup (qa_cons (qe_op op_addA os_add (qe_op op_addA os_add (qe_op op_addA os_add qe_str (qe_ix ix_seq os_ix qe_str (qe_cO C__law_below hr (by decide) tk (qa_cons (qe_var 0) (qa_cons qe_int qa_nil))))) qe_str) (qe_var 2)) (qa_cons qe_str qa_nil))))) qss_nil)
      (qss_cons (qs_if (qt_cmp (op_eqD hr.units) os_eq (qe_var 1) qe_int (nomark _)) (qss_one (qs_ret (qe_tup (qa_cons (qe_op op_addA os_add (qe_op op_addA os_add (qe_op op_addA os_add qe_str (qe_ix ix_seq os_ix qe_str (qe_cO C__law_below hr (by decide) tk (qa_cons (qe_var 0) (qa_cons qe_int qa_nil))))) qe_str) (qe_var 2)) (qa_cons qe_str qa_nil))))) qss_nil)
      (qss_cons (qs_if (qt_cmp (op_eqD hr.units) os_eq (qe_var 1) qe_int (nomark _)) (qss_one (qs_ret (qe_tup (qa_cons (qe_op op_addA os_add (qe_op op_addA os_add (qe_op op_addA os_add (qe_op op_addA os_add (qe_var 3) qe_str) (qe_var 4)) qe_str) (qe_var 2)) (qa_cons qe_str qa_nil))))) qss_nil)
      (qss_cons (qs_if (qt_cmp (op_eqD hr.units) os_eq (qe_var 1) qe_int (nomark _)) (qss_one (qs_ret (qe_tup (qa_cons (qe_op op_addA os_add (qe_op op_addA os_add (qe_var 3) qe_str) (qe_var 2)) (qa_cons qe_str qa_nil))))) qss_nil)
      (qss_cons (qs_if (qt_cmp (op_eqD hr.units) os_eq (qe_var 1) qe_int (nomark _)) (qss_one (qs_ret (qe_tup (qa_cons (qe_op op_addA os_add (qe_op op_addA os_add (qe_op op_addA os_add (qe_op op_addA os_add (qe_var 3) qe_str) (qe_var 4)) qe_str) (qe_var 2)) (qa_cons qe_str qa_nil))))) qss_nil)
      (qss_cons (qs_if (qt_cmp (op_eqD hr.units) os_eq (qe_var 1) qe_int (nomark _)) (qss_one (qs_ret (qe_tup (qa_cons (qe_op op_addA os_add (qe_op op_addA os_add (qe_op op_addA os_add (qe_op op_addA os_add (qe_var 3) qe_str) (qe_ix ix_seq os_ix (qe_lst (qa_cons qe_str (qa_cons qe_str (qa_cons qe_str qa_nil)))) (qe_cO C__law_below hr (by decide) tk (qa_cons (qe_var 0) (qa_cons qe_int qa_nil))))) qe_str) (qe_var 2)) (qa_cons qe_str qa_nil))))) qss_nil)
      (qss_cons (qs_if (qt_cmp (op_eqD hr.units) os_eq (qe_var 1) qe_int (nomark _)) (qss_one (qs_ret (qe_tup (qa_cons (qe_op op_addA os_add (qe_op op_addA os_add (qe_op op_addA os_add (qe_var 3) (qe_op op_mulS os_mulS qe_str qe_int)) qe_str) (qe_var 2)) (qa_cons qe_str qa_nil))))) qss_nil)
      (qss_cons (qs_if (qt_cmp (op_eqD hr.units) os_eq (qe_var 1) qe_int (nomark _)) (qss_one (qs_ret (qe_tup (qa_cons (qe_op op_addA os_add (qe_op op_addA os_add (qe_op op_addA os_add (qe_op op_addA os_add (qe_op op_addA os_add (qe_op op_addA os_add (qe_var 3) qe_str) (qe_callTy call_str_int cs_str z_str (by decide +kernel) (qa_cons (qe_cO C__law_below hr (by decide) tk (qa_cons (qe_var 0) (qa_cons qe_int qa_nil))) qa_nil))) qe_str) (qe_var 4)) qe_str) (qe_var 2)) (qa_cons qe_str qa_nil))))) qss_nil)
      (qss_cons (qs_if (qt_cmp (op_eqD hr.units) os_eq (qe_var 1) qe_int (nomark _)) (qss_one (qs_ret (qe_tup (qa_cons (qe_op op_addA os_add (qe_op op_addA os_add (qe_op op_addA os_add (qe_op op_addA os_add (qe_var 3) qe_str) (qe_callTy call_str_int cs_str z_str (by decide +kernel) (qa_cons (qe_op op_addA os_add qe_int (qe_cO C__law_below hr (by decide) tk (qa_cons (qe_var 0) (qa_cons qe_int qa_nil)))) qa_nil))) qe_str) (qe_var 2)) (qa_cons qe_str qa_nil))))) qss_nil)
      (qss_cons (qs_if (qt_cmp (op_eqD hr.units) os_eq (qe_var 1) qe_int (nomark _)) (qss_one (qs_ret (qe_tup (qa_cons (qe_op op_addA os_add (qe_op op_addA os_add (qe_op op_addA os_add (qe_op op_addA os_add (qe_var 3) qe_str) (qe_ix ix_seq os_ix qe_str (qe_cO C__law_below hr (by decide) tk (qa_cons (qe_var 0) (qa_cons qe_int qa_nil))))) qe_str) (qe_var 2)) (qa_cons qe_str qa_nil))))) qss_nil)
      (qss_cons (qs_if (qt_cmp (op_eqD hr.units) os_eq (qe_var 1) qe_int (nomark _)) (qss_one (qs_ret (qe_tup (qa_cons (qe_op op_addA os_add (qe_op op_addA os_add (qe_var 3) qe_str) (qe_var 2)) (qa_cons qe_str qa_nil))))) qss_nil)
      (qss_cons (qs_if (qt_cmp (op_eqD hr.units) os_eq (qe_var 1) qe_int (nomark _)) (qss_one (qs_ret (qe_tup (qa_cons (qe_op op_addA os_add qe_str (qe_var 2)) (qa_cons qe_str qa_nil))))) qss_nil)
      (qss_cons (qs_if (qt_cmp (op_eqD hr.units) os_eq (qe_var 1) qe_int (nomark _)) (qss_one (qs_ret (qe_tup (qa_cons (qe_op op_addA os_add (qe_op op_addA os_add (qe_op op_addA os_add (qe_var 3) (qe_repl q1_str)) qe_str) (qe_var 2)) (qa_cons qe_str qa_nil))))) qss_nil)
      (qss_cons (qs_set (i := 5) qe_str sc__law_faulty.nd)
      (qss_one (qs_ret (qe_tup (qa_cons (qe_op op_addA os_add (qe_op op_addA os_add (qe_op op_addA os_add qe_str (qe_var 5)) (qe_op op_mulS os_mulS qe_str qe_int)) (qe_op op_mulS os_mulS qe_str qe_int)) (qa_cons qe_str qa_nil)))))))))))))))))))))))
theorem sc__law_random : FnScope ["_law_script", "_law_salt", "_law_seed", "_law_cell"] ["_law_script", "_law_salt"] (defScope (top 48)) := ⟨rfl, rfl, rfl, by decide +kernel, rfl, by decide +kernel, by decide +kernel⟩
theorem ok__law_random {f : Addr} {fd : FuncData} {dvs : List V} {kws : List (Str × V)} (Fn : FunD K "_law_random" "_law_random" (defArgs (top 48)) (defBody (top 48)) (defScope (top 48)) dvs kws f fd) (z_abs : mg "abs" = none) : FnOk P w K mg base (L2N.CX P w) 1 f fd ["_law_script", "_law_salt"] (spN K mg 2 F__law_random) := by
  refine fn_N Fn sc__law_random (fun cdv A outer s H E B hr => ?_)
  have tk := L2N.takes_of (X := cxOf (L2N.CX P w) P w K mg base ["_law_script", "_law_salt", "_law_seed", "_law_cell"] "_law_random" (defScope (top 48)) f cdv A outer s H E) (E := E) rfl rfl rfl rfl
  have hp := passes_of (X := cxOf (L2N.CX P w) P w K mg base ["_law_script", "_law_salt", "_law_seed", "_law_cell"] "_law_random" (defScope (top 48)) f cdv A outer s H E) (K := fun e s'' => L2N.CX P w outer H s E e s'') rfl
  exact (qss_cons (qs_set (i := 2) (qe_var 1) sc__law_random.nd)
      (qss_cons (qs_for hp rfl (qi_seq (qe_var 0)) (qg_name (i := 3) sc__law_random.nd) (qss_one (qs_set (i := 2) (qe_op op_mod os_mod (qe_op op_addA os_add (qe_op op_mul os_mulI (qe_var 2) qe_int) (qe_callB call_abs cs_abs z_abs (by decide +kernel) (qa_cons (qe_var 3) qa_nil))) qe_int) sc__law_random.nd)))
      (qss_one (qs_ret (qe_op op_cat os_catO (qe_lst (qa_cons (qe_var 2) (qa_cons qe_int qa_nil))) (qe_lc rfl sc__law_random.nd (qi_seq (qe_var 0)) (blkOk_by (own := [("_law_cell", 3)]) rfl) (cg_name (by decide)) (fun _ _ _ _ _ => (pg_name (i := 3) sc__law_random.nd rfl (by first | exact Or.inl rfl | exact Or.inr rfl))) (fun B _ _ _ _ _ => (qts_one (qt_cmp op_ge os_ge (qe_var 3) (qe_op op_pow os_pow qe_int qe_int) (nomark _)))) (fun B _ _ _ _ _ => (qe_var 3))))))))
theorem sc_law_k02 : FnScope ["_law_script", "_law_d", "_law_step", "_law_text", "_law_reason", "_law_before", "_law_place", "_law_error"] ["_law_script"] (defScope (top 52)) := ⟨rfl, rfl, rfl, by decide +kernel, rfl, by decide +kernel, by decide +kernel⟩
theorem ok_law_k02 {f : Addr} {fd : FuncData} {dvs : List V} {kws : List (Str × V)} (Fn : FunD K "law" "law" (defArgs (top 52)) (defBody (top 52)) (defScope (top 52)) dvs kws f fd) (Lam : LamOk K mg base fd "law") (z_range : mg "range" = none) (EO : ErrOfTOk P w K mg base "_law_error_of" told) (C_format_plan : CallPOk P w K mg base "format_plan" 9 1 [] F_format_planM) (z_len : mg "len" = none) (C__law_faulty : CallOOk P w K mg base "_law_faulty" 2 1 [] F__law_faulty) (C__law_random : CallNOk P w K mg base "_law_random" 1 2 [] F__law_random) : FnOk P w K mg base (L2N.CX P w) 12 f fd ["_law_script"] (spP K mg 1 F_law_k02) := by
  obtain ⟨c, PT, hcode, TB, it⟩ := Lam
  refine fn_PL Fn sc_law_k02 (fun cdv A outer s H E B hcd hr => ?_)
  have tk := L2N.takes_of (X := cxOf (L2N.CX P w) P w K mg base ["_law_script", "_law_d", "_law_step", "_law_text", "_law_reason", "_law_before", "_law_place", "_law_error"] "law" (defScope (top 52)) f cdv A outer s H E) (E := E) rfl rfl rfl rfl
  have hp := passes_of (X := cxOf (L2N.CX P w) P w K mg base ["_law_script", "_law_d", "_law_step", "_law_text", "_law_reason", "_law_before", "_law_place", "_law_error"] "law" (defScope (top 52)) f cdv A outer s H E) (K := fun e s'' => L2N.CX P w outer H s E e s'') rfl
  exact (qss_cons (qs_set (i := 1) (qe_cN C__law_random hr (by decide) tk (qa_cons (qe_var 0) (qa_cons qe_int qa_nil))) sc_law_k02.nd)
      (qss_cons (qs_for hp rfl (qi_range1 z_range (qa_cons qe_int qa_nil)) (qg_name (i := 2) sc_law_k02.nd) (qss_cons (qs_asg (qe_cO C__law_faulty hr (by decide) tk (qa_cons (qe_var 1) qa_nil)) (qg_tup rfl (qgs_cons (qg_name (i := 3) sc_law_k02.nd) (qgs_cons (qg_name (i := 4) sc_law_k02.nd) qgs_nil))))
      (qss_tok (qs1_set (i := 5) (q1_slice sl_all ss_sl (qe_var 3) qo_none (qo1_some (q1_bmA PySem.F.plainAttrs_str PySem.F.slot_str_index PySem.F.type_str_index mt_sindex ms_sindex (qe_var 3) qa1_str))) sc_law_k02.nd)
      (qsst_consP (qs_set (i := 6) (qe_tup (qa_cons (qe_bm PySem.F.plainAttrs_str PySem.F.slot_str_count PySem.F.type_str_count mt_count ms_scount (qe_var 5) (qa_cons qe_str qa_nil)) (qa_cons (qe_op op_sub os_sub (qe_op op_sub os_sub (qe_callB call_lenA cs_len z_len PySem.boot_len (qa_cons (qe_var 5) qa_nil)) (qe_bm PySem.F.plainAttrs_str PySem.F.slot_str_rfind PySem.F.type_str_rfind mt_rfind ms_srfind (qe_var 5) (qa_cons qe_str qa_nil))) qe_int) qa_nil))) sc_law_k02.nd)
      (qsst_consT (qst_set (i := 7) (qet_errOf (k := 9) EO TB (hcd.symm.trans hcode) it (hr.mono (by decide)) (LamX.lamS_by rfl) (fun A outer s H E f c' hr => (qet_cP C_format_plan hr (by decide) takes_lam (qat_cons1 (qet_repl (qe_var 3)) qa_nil)))) sc_law_k02.nd)
      (qss_one (qs_if (qt_cmp (op_neD hr.units) os_ne (qe_var 7) (qe_ifExp (qt_cmp (op_neD hr.units) os_ne (qe_var 4) qe_str (nomark _)) (qe_tup (qa_cons qe_str (qa_cons (qe_tup (qa_cons (qe_var 4) (qa_cons (qe_ix ix_seq os_ix (qe_var 6) qe_int) (qa_cons (qe_ix ix_seq os_ix (qe_var 6) qe_int) qa_nil)))) qa_nil))) qe_non) (nomark _)) (qss_one (qs_ret qe_bl)) qss_nil)))))))
      (qss_one (qs_ret qe_bl))))
end
end G
namespace G
open PySem L2 Cl
def rb (ds : List D) (lo hi : Int) (i : Nat) : Option Nat := match ds[i]? with
  | some (.int b) => if lo ≤ b ∧ b ≤ hi ∧ 0 ≤ b then some b.toNat else none
  | _ => none
/-- all that was read are bytes -/
def Rd (ds : List D) (i : Nat) : Prop := ∀ k, k < i → ∃ b : Nat, ds[k]? = some (.int b)
theorem Rd.next {ds : List D} {lo hi : Int} {i b : Nat} (h : Rd ds i) (hb : rb ds lo hi i = some b) : Rd ds (i + 1) ∧ ds[i]? = some (.int (b : Nat)) ∧ lo ≤ (b : Int) ∧ (b : Int) ≤ hi := by
  unfold rb at hb
  split at hb
  · rename_i z e
    split at hb
    · rename_i hz
      cases hb
      have e2 : ((z.toNat : Nat) : Int) = z := by omega
      refine ⟨fun k hk => ?_, by rw [e2]; exact e, by omega, by omega⟩
      rcases Nat.lt_or_ge k i with z' | z'
      · exact h k z'
      · have : k = i := by omega
        subst this
        exact ⟨z.toNat, by rw [e2]; exact e⟩
    · cases hb
  · cases hb
section
variable {s : List O} {ds : List D} {i n : Nat} {ex : List O} {sl : Sl}
theorem set_xc {e : ME} {st st' : List O} {x : XD} {k : Nat} (h : e sl st = some (.error x, st')) : sSet k e sl st = some (.xc x, sl, st') := by simp [h]
theorem expr_xc {e : ME} {st st' : List O} {x : XD} (h : e sl st = some (.error x, st')) : sExpr e sl st = some (.xc x, sl, st') := by simp [h]
theorem seq_xc {a b : MS} {sl' : Sl} {st st' : List O} {x : XD} (h : a sl st = some (.xc x, sl', st')) : sSeq a b sl st = some (.xc x, sl', st') := by simp [h]
theorem for_it {fi : MI} {g : MG} {b : MS} {st st1 : List O} {x : XD} (h : fi sl st = some (.error x, st1)) : sFor fi g b sl st = some (.xc x, sl, st1) := by simp [h]
theorem meth1x {ns : List Str} {m : Str} {F : OF} {a e : ME} {st st1 st2 : List O} {x y : S} {z : XD} (h0 : a sl st = some (.ok x, st)) (hc : chkM ns m x st = some (.ok (), st)) (h1 : e sl st = some (.ok y, st1)) (hF : F [x, y] st1 = some (.error z, st2)) : eMeth ns m (gCallO 2 F []) a (aCons e aNil) sl st = some (.error z, st2) := by
  unfold eMeth
  simp only [M.bind, h0, hc, acons1 h1]
  simp only [gCallO, List.map_nil, List.append_nil, List.length_cons, List.length_nil, if_true]
  exact hF
theorem meth2x {ns : List Str} {m : Str} {F : OF} {a e f : ME} {st st1 st2 st3 : List O} {x y z : S} {w : XD} (h0 : a sl st = some (.ok x, st)) (hc : chkM ns m x st = some (.ok (), st)) (h1 : e sl st = some (.ok y, st1)) (h2 : f sl st1 = some (.ok z, st2)) (hF : F [x, y, z] st2 = some (.error w, st3)) : eMeth ns m (gCallO 3 F []) a (aCons e (aCons f aNil)) sl st = some (.error w, st3) := by
  unfold eMeth
  simp only [M.bind, h0, hc, acons2d h1 h2]
  simp only [gCallO, List.map_nil, List.append_nil, List.length_cons, List.length_nil, if_true]
  exact hF
end
end G
namespace G
open PySem L2 Cl
abbrev F4 := Nat × Nat × Nat × Str
structure PQ where
  i : Nat
  fa : List F4
  na : List (List Nat)
  sts : List T3
  pa : List (Nat × Nat)
  r : Option (List Nat)
abbrev fD (f : F4) : D := .tup [.int f.1, .int f.2.1, .int f.2.2.1, .str f.2.2.2]
abbrev prDp (q : Nat × Nat) : D := .tup [.int q.1, .int q.2]
def rD : Option (List Nat) → D
  | none => .non
  | some l => .lst (l.map iD)
def PQ.ps (q : PQ) : PS := ⟨q.i, q.fa.map fD, q.na.map fun w => .str (Sc w), q.sts.map triD, q.pa.map prDp, rD q.r⟩
abbrev PR (α : Type) := Except (Nat × Nat) (α × PQ)
def pbind {α β : Type} (m : PR α) (k : α → PQ → PR β) : PR β := match m with
  | .ok (a, q) => k a q
  | .error e => .error e
def mTake (ts : List Tk) (k : Str) (q : PQ) : PR Tk := match ts[q.i]? with
  | none => .error (0, 0)
  | some t => if t.k = k then .ok (t, { q with i := q.i + 1 }) else .error (t.l, t.c)
def mWord (ts : List Tk) (w : List Nat) (q : PQ) : PR Unit := match ts[q.i]? with
  | none => .error (0, 0)
  | some t => if t.t = w then .ok ((), { q with i := q.i + 1 }) else .error (t.l, t.c)
def mFound (s : Str) (t : Tk) (q : PQ) : PQ := { q with fa := q.fa ++ [(t.l, t.c, q.fa.length, s)] }
def isNm (t : Tk) : Bool := decide (t.k = "name")
def mNames (ts : List Tk) (q : PQ) : PR (List Tk) := pbind (mTake ts "name" q) fun t q => pbind (mWord ts [59] { q with i := q.i + ((ts.drop q.i).takeWhile isNm).length }) fun _ q2 => .ok (t :: (ts.drop q.i).takeWhile isNm, q2)
/-- tokens that the lexer makes -/
def TkOk (t : Tk) : Prop := WdOk (kw t)
structure GT (ts : List Tk) : Prop where
  ex : ∃ us n, ts = us ++ [⟨"end", [], n, 0⟩] ∧ ∀ t ∈ us, TkOk t
  sz : ts.length ≤ 1000000
structure QI (q : PQ) : Prop where
  nd : q.na.Nodup
  ok : ∀ w ∈ q.na, okC w
  n8 : q.na.length ≤ 8
  fa : q.fa.length ≤ 4 * q.i
  fn : q.fa.map (·.2.2.1) = List.range q.fa.length
  st : q.sts.length ≤ q.i
  pa : q.pa.length ≤ q.i
section
variable {ts : List Tk} {q : PQ} {ex : List O} {t : Tk}
theorem ne_end (s : String) (h : Str.ofString s ≠ "end" := by decide +kernel) : Str.ofString s ≠ "end" := h
theorem tk_ok (h : TkOk t) : okC t.t ∧ PyData.strOk t.k = true ∧ t.k ≠ "end" ∧ t.t ≠ [] := by
  have h1 := wd_ok h
  have e : t.k = (kw t).1 ∧ t.t = (kw t).2 := ⟨rfl, rfl⟩
  rw [e.1, e.2]
  refine ⟨h1.1, ?_⟩
  have h : WdOk (kw t) := h
  generalize kw t = x at h
  cases h with
  | name h => exact ⟨strOk_lit _, ne_end "name", fun z => by have h1 := h.1; simp only at z; rw [z] at h1; simp at h1⟩
  | num h => exact ⟨strOk_lit _, ne_end "number", fun z => by have h1 := h.1; simp only at z; rw [z] at h1; simp at h1⟩
  | key h => exact ⟨strOk_lit _, ne_end "keyword", fun z => by have h1 := h.2.2; simp only at z; rw [z] at h1; simp at h1⟩
  | sign => exact ⟨strOk_lit _, ne_end "sign", by simp⟩
/-- a token, and whether more follow -/
theorem GT.at (g : GT ts) {i : Nat} (hi : i < ts.length) : ∃ t, ts[i]? = some t ∧ okC t.t ∧ PyData.strOk t.k = true ∧ ((t.k = "end" ∧ t.t = []) ∨ (TkOk t ∧ i + 1 < ts.length)) := by
  obtain ⟨us, n, rfl, hu⟩ := g.ex
  rcases Nat.lt_or_ge i us.length with z | z
  · refine ⟨us[i], by rw [List.getElem?_append_left z, List.getElem?_eq_getElem z], (tk_ok (hu _ (List.getElem_mem z))).1, (tk_ok (hu _ (List.getElem_mem z))).2.1, .inr ⟨hu _ (List.getElem_mem z), ?_⟩⟩
    rw [List.length_append, List.length_singleton]; omega
  · have e : i = us.length := by rw [List.length_append, List.length_singleton] at hi; omega
    subst e
    exact ⟨⟨"end", [], n, 0⟩, by simp, (fun c hc => by cases hc), strOk_lit _, .inl ⟨rfl, rfl⟩⟩
theorem toks_get (h : ts[q.i]? = some t) : (ts.map Tk.d)[q.ps.i]? = some (tokD t.k (Sc t.t) t.l t.c) := by
  show (ts.map Tk.d)[q.i]? = _
  rw [List.getElem?_map, h]; rfl
theorem exit_xc (hx : exOk ex) {toks : List D} {p : PS} {ys : List O} (x : XD) (sl : Sl) : exitC (ex.length + 5) (some (.xc x, sl, PSt toks p (ex ++ ys))) = some (.error x, PSt toks p ex) := by
  unfold exitC
  dsimp only
  rw [if_pos (P_cut hx), P_take]
theorem exit_xc0 (hx : exOk ex) {toks : List D} {p : PS} (x : XD) (sl : Sl) : exitC (ex.length + 5) (some (.xc x, sl, PSt toks p ex)) = some (.error x, PSt toks p ex) := by
  unfold exitC
  dsimp only
  rw [if_pos (P_cut0 hx), P_take0]
theorem fail_p {toks : List D} {p : PS} {k t : Str} {l c : Nat} (hx : exOk ex) (h : toks[p.i]? = some (tokD k t l c)) : F_Parser_fail [.obj 0] (PSt toks p ex) = some (.error (synX l c), PSt toks p ex) := by
  simp [-exitC, F_Parser_fail, b_Parser_fail, peek_eq hx h, backF, exit_xc0 hx]
theorem take_bad {toks : List D} {p : PS} {k k' t : Str} {l c : Nat} (hx : exOk ex) (hk : PyData.strOk k = true) (hk' : PyData.strOk k' = true) (hne : k ≠ k') (h : toks[p.i]? = some (tokD k t l c)) : F_Parser_take [.obj 0, .val (.str k')] (PSt toks p ex) = some (.error (synX l c), PSt toks p ex) := by
  simp [-exitC, F_Parser_take, b_Parser_take, gNe_str _ hk hk', hne, peek_eq hx h, fail_p hx h, exit_xc0 hx]
theorem word_bad {toks : List D} {p : PS} {k t t' : Str} {l c : Nat} (hx : exOk ex) (hk : PyData.strOk t = true) (hk' : PyData.strOk t' = true) (hne : t ≠ t') (h : toks[p.i]? = some (tokD k t l c)) : F_Parser_take_word [.obj 0, .val (.str t')] (PSt toks p ex) = some (.error (synX l c), PSt toks p ex) := by
  simp [-exitC, F_Parser_take_word, b_Parser_take_word, gNe_str _ hk hk', hne, peek_eq hx h, fail_p hx h, exit_xc0 hx]
theorem takeP (g : GT ts) (hx : exOk ex) (hi : q.i < ts.length) {k : Str} (hk : PyData.strOk k = true) (hne : k ≠ "end") :
    (∃ t, ts[q.i]? = some t ∧ t.k = k ∧ TkOk t ∧ q.i + 1 < ts.length ∧ mTake ts k q = .ok (t, { q with i := q.i + 1 }) ∧ F_Parser_take [.obj 0, .val (.str k)] (PSt (ts.map Tk.d) q.ps ex) = some (.ok (.val t.d), PSt (ts.map Tk.d) (PQ.ps { q with i := q.i + 1 }) ex)) ∨
    (∃ l c, mTake ts k q = .error (l, c) ∧ F_Parser_take [.obj 0, .val (.str k)] (PSt (ts.map Tk.d) q.ps ex) = some (.error (synX l c), PSt (ts.map Tk.d) q.ps ex)) := by
  obtain ⟨t, h1, h2, h3, h4⟩ := g.at hi
  have hg := toks_get h1
  by_cases hk2 : t.k = k
  · rcases h4 with h4 | h4
    · exact absurd (hk2.symm.trans h4.1) hne
    · refine .inl ⟨t, h1, hk2, h4.1, h4.2, by unfold mTake; rw [h1]; simp only; rw [if_pos hk2], ?_⟩
      rw [← hk2]
      exact take_eq hx (by rw [hk2]; exact hk) hg
  · exact .inr ⟨t.l, t.c, by unfold mTake; rw [h1]; simp only; rw [if_neg hk2], take_bad hx h3 hk hk2 hg⟩
theorem wordP (g : GT ts) (hx : exOk ex) (hi : q.i < ts.length) {w : List Nat} (hw : okC w) (hne : w ≠ []) :
    (∃ t, ts[q.i]? = some t ∧ t.t = w ∧ TkOk t ∧ q.i + 1 < ts.length ∧ mWord ts w q = .ok ((), { q with i := q.i + 1 }) ∧ F_Parser_take_word [.obj 0, .val (.str (Sc w))] (PSt (ts.map Tk.d) q.ps ex) = some (.ok (.val .non), PSt (ts.map Tk.d) (PQ.ps { q with i := q.i + 1 }) ex)) ∨
    (∃ l c, mWord ts w q = .error (l, c) ∧ F_Parser_take_word [.obj 0, .val (.str (Sc w))] (PSt (ts.map Tk.d) q.ps ex) = some (.error (synX l c), PSt (ts.map Tk.d) q.ps ex)) := by
  obtain ⟨t, h1, h2, h3, h4⟩ := g.at hi
  have hg := toks_get h1
  by_cases hk2 : t.t = w
  · rcases h4 with h4 | h4
    · exact absurd (hk2.symm.trans h4.2) hne
    · refine .inl ⟨t, h1, hk2, h4.1, h4.2, by unfold mWord; rw [h1]; simp only; rw [if_pos hk2], ?_⟩
      rw [← hk2]
      exact take_word_eq hx (by rw [hk2]; exact ok_Sc hw) hg
  · exact .inr ⟨t.l, t.c, by unfold mWord; rw [h1]; simp only; rw [if_neg hk2], word_bad hx (ok_Sc h2) (ok_Sc hw) (fun z => hk2 (Sc_inj z)) hg⟩
/-- found -/
theorem foundP (hx : exOk ex) {s : Str} (hf : q.fa.length ≤ 8000000) : F_Parser_found [.obj 0, .val (.str s), .val t.d] (PSt (ts.map Tk.d) q.ps ex) = some (.ok (.val .non), PSt (ts.map Tk.d) (mFound s t q).ps ex) := by
  have hs : q.fa.length < sizeLine := sizes (by omega)
  have e8 : (PSt (ts.map Tk.d) q.ps ex).set 1 (.lst (q.ps.fa.map .val ++ [.val (fD (t.l, t.c, q.fa.length, s))])) = PSt (ts.map Tk.d) (mFound s t q).ps ex := by
    simp [PSt, mFound, PQ.ps]
  have g6 : 4 ≤ sizeLine := Nat.le_of_lt (sizes (by omega))
  have hl : q.ps.fa.length = q.fa.length := by simp [PQ.ps]
  simp only [fD] at e8
  simp [-exitC, F_Parser_found, b_Parser_found, gLen, Cl.gTup, g6, gAppend, hl, hs] at e8 ⊢
  rw [e8]
  exact exit_nx0 hx _
end
end G
namespace G
open PySem L2 Cl
section
variable {ts : List Tk} {q : PQ} {ex : List O} {t : Tk}
theorem tw_cons {n : Tk} {m : List Tk} {i : Nat} (h : (ts.drop i).takeWhile isNm = n :: m) : ts[i]? = some n ∧ n.k = "name" ∧ (ts.drop (i + 1)).takeWhile isNm = m := by
  cases e : ts.drop i with
  | nil => rw [e] at h; cases h
  | cons a r =>
    rw [e, List.takeWhile_cons] at h
    split at h
    · rename_i ha
      cases h
      have h1 : ts[i]? = some n := by
        have := congrArg (fun z => z[0]?) e
        simpa using this
      have h2 : ts.drop (i + 1) = r := by rw [← List.drop_drop, e]; rfl
      exact ⟨h1, of_decide_eq_true ha, by rw [h2]⟩
    · cases h
theorem tw_nil {i : Nat} (h : (ts.drop i).takeWhile isNm = []) (ht : ts[i]? = some t) : t.k ≠ "name" := by
  intro hk
  have e : ts.drop i = t :: ts.drop (i + 1) := by
    have hi : i < ts.length := (List.getElem?_eq_some_iff.mp ht).1
    rw [List.drop_eq_getElem_cons hi]
    rw [List.getElem?_eq_getElem hi] at ht
    cases ht; rfl
  rw [e, List.takeWhile_cons] at h
  have : isNm t = true := decide_eq_true hk
  rw [this] at h
  cases h
theorem p_var {toks : List D} {p : PS} {sl : Sl} : eVar 0 (some (.obj 0) :: sl) (PSt toks p ex) = some (.ok (.obj 0), PSt toks p ex) := by simp
theorem p_chk {toks : List D} {p : PS} (m : Str) (h : (["tokens", "at", "faults", "names", "starts", "pauses", "ranks"] : List Str).contains m = false := by decide +kernel) : chkM ["Parser"] m (.obj 0) (PSt toks p ex) = some (.ok (), PSt toks p ex) := by
  simp only [List.contains_cons, List.contains_nil, Bool.or_false, Bool.or_eq_false_iff] at h
  obtain ⟨h1, h2, h3, h4, h5, h6, h7⟩ := h
  simp [chkM, List.lookup_cons, h1, h2, h3, h4, h5, h6, h7]
theorem names_loopP (g : GT ts) (hx : exOk ex) : ∀ (m : List Tk) (q : PQ) (acc : List Tk), (ts.drop q.i).takeWhile isNm = m → q.i < ts.length → acc.length + m.length ≤ 2000000 →
    q.i + m.length < ts.length ∧ sWhile c1_Parser_take_names l1_Parser_take_names [some (.obj 0), some (.obj (ex.length + 5))] (PSt (ts.map Tk.d) q.ps (ex ++ [.lst ((acc.map Tk.d).map .val)])) =
      some (.nx, [some (.obj 0), some (.obj (ex.length + 5))], PSt (ts.map Tk.d) (PQ.ps { q with i := q.i + m.length }) (ex ++ [.lst (((acc ++ m).map Tk.d).map .val)]))
  | [], q, acc, h, hi, hl => by
    obtain ⟨t, h1, h2, h3, h4⟩ := g.at hi
    have hk := tw_nil h h1
    refine ⟨by simpa using hi, ?_⟩
    rw [while_stop (st1 := PSt (ts.map Tk.d) q.ps (ex ++ [.lst ((acc.map Tk.d).map .val)]))]
    · simp
    · simp [c1_Parser_take_names, peek_eq (exOk_app hx (acc.map Tk.d)) (toks_get h1), gEq_str _ h3 (strOk_lit _), hk, -List.map_map]
  | n :: m, q, acc, h, hi, hl => by
    obtain ⟨h1, hk, h3⟩ := tw_cons h
    obtain ⟨t, h1', h2, h4, h5⟩ := g.at hi
    rw [h1] at h1'
    cases h1'
    have hi2 : q.i + 1 < ts.length := by
      rcases h5 with h5 | h5
      · exact absurd (hk.symm.trans h5.1) (ne_end "name")
      · exact h5.2
    simp only [List.length_cons] at hl
    obtain ⟨i1, i2⟩ := names_loopP g hx m { q with i := q.i + 1 } (acc ++ [n]) h3 hi2 (by rw [List.length_append, List.length_singleton]; omega)
    refine ⟨by simp only [List.length_cons]; simp only at i1; omega, ?_⟩
    have hg := toks_get h1
    have hz : acc.length < sizeLine := sizes (by omega)
    rw [while_go (st1 := PSt (ts.map Tk.d) q.ps (ex ++ [.lst ((acc.map Tk.d).map .val)])) (sl2 := [some (.obj 0), some (.obj (ex.length + 5))]) (st2 := PSt (ts.map Tk.d) (PQ.ps { q with i := q.i + 1 }) (ex ++ [.lst (((acc ++ [n]).map Tk.d).map .val)]))]
    · rw [i2]
      have e1 : q.i + 1 + m.length = q.i + (n :: m).length := by simp; omega
      rw [e1, List.append_assoc]; rfl
    · simp [c1_Parser_take_names, peek_eq (exOk_app hx (acc.map Tk.d)) hg, hk, gEq_str _ (strOk_lit "name") (strOk_lit "name"), -List.map_map]
    · have te := take_eq (ex := ex ++ [.lst ((acc.map Tk.d).map .val)]) (exOk_app hx (acc.map Tk.d)) h4 hg
      rw [hk] at te
      have te2 : F_Parser_take [.obj 0, .val (.str "name")] (PSt (ts.map Tk.d) q.ps (ex ++ [.lst ((acc.map Tk.d).map .val)])) = some (.ok (.val n.d), PSt (ts.map Tk.d) (PQ.ps { q with i := q.i + 1 }) (ex ++ [.lst ((acc.map Tk.d).map .val)])) := by
        rw [te]
        have : tokD "name" (Sc n.t) n.l n.c = n.d := by rw [← hk]
        rw [this]; rfl
      simp [l1_Parser_take_names, te2, gAppend, hz, -List.map_map]
theorem namesP (g : GT ts) (hx : exOk ex) (hi : q.i < ts.length) :
    (∃ us q', mNames ts q = .ok (us, q') ∧ q' = { q with i := q.i + us.length + 1 } ∧ q'.i < ts.length ∧ (∀ u ∈ us, TkOk u ∧ u.k = "name") ∧ us ≠ [] ∧ F_Parser_take_names [.obj 0] (PSt (ts.map Tk.d) q.ps ex) = some (.ok (.val (.lst (us.map Tk.d))), PSt (ts.map Tk.d) q'.ps ex)) ∨
    (∃ l c p', mNames ts q = .error (l, c) ∧ F_Parser_take_names [.obj 0] (PSt (ts.map Tk.d) q.ps ex) = some (.error (synX l c), PSt (ts.map Tk.d) p' ex)) := by
  have hs : 1 ≤ sizeLine := Nat.le_of_lt (sizes (by omega))
  rcases takeP g hx hi (k := "name") (strOk_lit _) (ne_end "name") with ⟨t, h1, hk, hok, hi2, hm, hF⟩ | ⟨l, c, hm, hF⟩
  · obtain ⟨i1, i2⟩ := names_loopP g hx ((ts.drop (q.i + 1)).takeWhile isNm) { q with i := q.i + 1 } [t] rfl hi2 (by
      have h1 := (List.takeWhile_prefix isNm (l := ts.drop (q.i + 1))).length_le
      have h2 := g.sz
      rw [List.length_drop] at h1
      simp; omega)
    have mem : ∀ u ∈ (ts.drop (q.i + 1)).takeWhile isNm, TkOk u ∧ u.k = "name" := fun u hu => by
      have hk : u.k = "name" := by
        have := List.all_eq_true.mp (List.all_takeWhile (l := ts.drop (q.i + 1)) (p := isNm)) u hu
        exact of_decide_eq_true this
      have hmem : u ∈ ts := List.mem_of_mem_drop ((List.takeWhile_sublist isNm).subset hu)
      obtain ⟨j, hj⟩ := List.getElem?_of_mem hmem
      obtain ⟨t2, g1, g2, g3, g4⟩ := g.at (List.getElem?_eq_some_iff.mp hj).1
      rw [hj] at g1; cases g1
      rcases g4 with g4 | g4
      · exact absurd (hk.symm.trans g4.1) (ne_end "name")
      · exact ⟨g4.1, hk⟩
    generalize hns : (ts.drop (q.i + 1)).takeWhile isNm = ns at i1 i2 mem
    have hx2 := exOk_app hx (([t] ++ ns).map Tk.d)
    rcases wordP (q := { q with i := q.i + 1 + ns.length }) g hx2 i1 (w := [59]) (by intro c hc; rw [List.mem_singleton.mp hc]; decide) (by simp) with ⟨t3, g1, g2, g3, g4, g5, g6⟩ | ⟨l, c, g5, g6⟩
    · left
      refine ⟨t :: ns, { q with i := q.i + (t :: ns).length + 1 }, ?_, rfl, by simp only [List.length_cons]; simp only at g4; omega, fun u hu => ?_, by simp, ?_⟩
      · unfold mNames
        rw [hm]
        simp only [pbind, hns, g5]
        rw [show q.i + 1 + ns.length + 1 = q.i + (t :: ns).length + 1 by simp; omega]
      · rcases List.mem_cons.mp hu with rfl | hu
        · exact ⟨hok, hk⟩
        · exact mem u hu
      · rw [lit_semi.symm] at g6
        have e1 : q.i + 1 + ns.length + 1 = q.i + (t :: ns).length + 1 := by simp; omega
        simp only [e1] at g6
        unfold F_Parser_take_names asC b_Parser_take_names
        have s1 : eArgs gLstO (aCons (eMeth ["Parser"] "take" (gCallO 2 F_Parser_take []) (eVar 0) (aCons (eC (.str "name")) aNil)) aNil) [some (.obj 0), none] (PSt (ts.map Tk.d) q.ps ex) = some (.ok (.obj (ex.length + 5)), PSt (ts.map Tk.d) (PQ.ps { q with i := q.i + 1 }) (ex ++ [.lst (([t].map Tk.d).map .val)])) := by
          simp [gLstO, hF, hs]
        have s3 : eMeth ["Parser"] "take_word" (gCallO 2 F_Parser_take_word []) (eVar 0) (aCons (eC (.str ";")) aNil) [some (.obj 0), some (.obj (ex.length + 5))] (PSt (ts.map Tk.d) (PQ.ps { q with i := q.i + 1 + ns.length }) (ex ++ [.lst ((([t] ++ ns).map Tk.d).map .val)])) = some (.ok (.val .non), PSt (ts.map Tk.d) (PQ.ps { q with i := q.i + (t :: ns).length + 1 }) (ex ++ [.lst ((([t] ++ ns).map Tk.d).map .val)])) := by
          exact meth1 (k := 0) p_var (p_chk "take_word") rfl g6
        have s4 : eFrz (eVar 1) [some (.obj 0), some (.obj (ex.length + 5))] (PSt (ts.map Tk.d) (PQ.ps { q with i := q.i + (t :: ns).length + 1 }) (ex ++ [.lst ((([t] ++ ns).map Tk.d).map .val)])) = some (.ok (.val (.lst ((t :: ns).map Tk.d))), PSt (ts.map Tk.d) (PQ.ps { q with i := q.i + (t :: ns).length + 1 }) (ex ++ [.frz (.lst ((t :: ns).map Tk.d))])) := by
          have dd : datas ((([t] ++ ns).map Tk.d).map S.val) = some (([t] ++ ns).map Tk.d) := datas_map _
          unfold eFrz
          simp [-List.map_map, -List.map_append, -List.map_cons, -List.cons_append, toD, dd]
        rw [show mkSl 2 [.obj 0] = [some (.obj 0), none] from rfl]
        rw [show (PSt (ts.map Tk.d) q.ps ex).length = ex.length + 5 from rfl]
        rw [(seq_nx (set_nx s1)).trans ((seq_nx i2).trans ((seq_nx (expr_nx s3)).trans (ret_ok s4)))]
        exact exit_rt hx _ _
    · right
      refine ⟨l, c, PQ.ps { q with i := q.i + 1 + ns.length }, ?_, ?_⟩
      · unfold mNames
        rw [hm]
        simp only [pbind, hns, g5]
      · rw [lit_semi.symm] at g6
        unfold F_Parser_take_names asC b_Parser_take_names
        have s1 : eArgs gLstO (aCons (eMeth ["Parser"] "take" (gCallO 2 F_Parser_take []) (eVar 0) (aCons (eC (.str "name")) aNil)) aNil) [some (.obj 0), none] (PSt (ts.map Tk.d) q.ps ex) = some (.ok (.obj (ex.length + 5)), PSt (ts.map Tk.d) (PQ.ps { q with i := q.i + 1 }) (ex ++ [.lst (([t].map Tk.d).map .val)])) := by
          simp [gLstO, hF, hs]
        have s3 : eMeth ["Parser"] "take_word" (gCallO 2 F_Parser_take_word []) (eVar 0) (aCons (eC (.str ";")) aNil) [some (.obj 0), some (.obj (ex.length + 5))] (PSt (ts.map Tk.d) (PQ.ps { q with i := q.i + 1 + ns.length }) (ex ++ [.lst ((([t] ++ ns).map Tk.d).map .val)])) = some (.error (synX l c), PSt (ts.map Tk.d) (PQ.ps { q with i := q.i + 1 + ns.length }) (ex ++ [.lst ((([t] ++ ns).map Tk.d).map .val)])) := by
          exact meth1x p_var (p_chk "take_word") rfl g6
        rw [show mkSl 2 [.obj 0] = [some (.obj 0), none] from rfl]
        rw [show (PSt (ts.map Tk.d) q.ps ex).length = ex.length + 5 from rfl]
        rw [(seq_nx (set_nx s1)).trans ((seq_nx i2).trans (seq_xc (expr_xc s3)))]
        exact exit_xc hx _ _
  · right
    refine ⟨l, c, q.ps, by unfold mNames; rw [hm]; rfl, ?_⟩
    unfold F_Parser_take_names asC b_Parser_take_names
    have s1 : eArgs gLstO (aCons (eMeth ["Parser"] "take" (gCallO 2 F_Parser_take []) (eVar 0) (aCons (eC (.str "name")) aNil)) aNil) [some (.obj 0), none] (PSt (ts.map Tk.d) q.ps ex) = some (.error (synX l c), PSt (ts.map Tk.d) q.ps ex) := by
      simp [hF]
    rw [show mkSl 2 [.obj 0] = [some (.obj 0), none] from rfl]
    rw [show (PSt (ts.map Tk.d) q.ps ex).length = ex.length + 5 from rfl]
    rw [seq_xc (set_xc s1)]
    exact exit_xc0 hx _ _
end
end G
namespace G
open PySem L2 Cl
/-- a number's value -/
def tval (w : List Nat) : Nat := w.foldl (fun a c => a * 10 + (c - 48)) 0
theorem num1 : ∀ a, a < 10 → [48 + a] = TL.numL a := by decide
theorem num2 : ∀ a, a < 10 → ∀ b, b < 10 → a ≠ 0 → [48 + a, 48 + b] = TL.numL (a * 10 + b) := by decide
theorem num_of {w : List Nat} (h : NuW w) : Num (Sc w) (tval w) ∧ tval w < 100 := by
  obtain ⟨h1, h2, h3, h4⟩ := h
  match w, h1, h2, h3, h4 with
  | [a], _, _, h3, _ =>
    have := h3 a List.mem_cons_self
    simp only [isDig, Bool.and_eq_true, decide_eq_true_eq] at this
    have e := num1 (a - 48) (by omega)
    rw [show 48 + (a - 48) = a by omega] at e
    have ev : tval [a] = a - 48 := by simp [tval]
    rw [ev, e]
    exact ⟨Num_num (by omega), by omega⟩
  | [a, b], _, _, h3, h4 =>
    have ha := h3 a List.mem_cons_self
    have hb := h3 b (List.mem_cons_of_mem _ List.mem_cons_self)
    simp only [isDig, Bool.and_eq_true, decide_eq_true_eq] at ha hb
    have hne : a - 48 ≠ 0 := fun z => by
      rcases h4 with h4 | h4
      · simp at h4
      · exact h4 [b] (by rw [show a = 48 by omega])
    have e := num2 (a - 48) (by omega) (b - 48) (by omega) hne
    rw [show 48 + (a - 48) = a by omega, show 48 + (b - 48) = b by omega] at e
    have ev : tval [a, b] = (a - 48) * 10 + (b - 48) := by simp [tval]
    rw [ev, e]
    exact ⟨Num_num (by omega), by omega⟩
theorem tk_num {t : Tk} (h : TkOk t) (hk : t.k = "number") : Num (Sc t.t) (tval t.t) ∧ tval t.t < 100 := by
  have h : WdOk (kw t) := h
  have e : t.k = (kw t).1 ∧ t.t = (kw t).2 := ⟨rfl, rfl⟩
  rw [e.1] at hk
  rw [e.2]
  generalize kw t = x at h hk
  cases h with
  | num h => exact num_of h
  | name _ => exact absurd hk (by simp only; decide +kernel)
  | key _ => exact absurd hk (by simp only; decide +kernel)
  | sign => exact absurd hk (by decide +kernel)
def mValve (t : Tk) (q : PQ) : Nat × PQ := if t.t ∈ q.na then (q.na.idxOf t.t, q) else (0, mFound "unknown" t q)
def mNumber (ts : List Tk) (w : String) (hi : Nat) (q : PQ) : PR Nat := pbind (mWord ts (cds w) q) fun _ q => pbind (mTake ts "number" q) fun t q => pbind (mWord ts [59] q) fun _ q =>
  .ok (tval t.t, if 1 ≤ tval t.t ∧ tval t.t ≤ hi then q else mFound (Str.ofString w) t q)
section
variable {ts : List Tk} {q : PQ} {ex : List O} {t : Tk}
theorem QI.nm (h : QI q) : NmOk (q.na.map Sc) := ⟨by
    have := h.nd
    exact List.Pairwise.map Sc (fun a b hab e => hab (Sc_inj e)) this, fun x hx => by
    obtain ⟨w, hw, rfl⟩ := List.mem_map.mp hx
    exact ok_Sc (h.ok w hw)⟩
theorem ps_na (q : PQ) : q.ps.na = (q.na.map Sc).map .str := by simp [PQ.ps]
theorem mem_Sc {w : List Nat} {l : List (List Nat)} : Sc w ∈ l.map Sc ↔ w ∈ l := by
  constructor
  · intro h
    obtain ⟨v, hv, e⟩ := List.mem_map.mp h
    rw [← Sc_inj e]; exact hv
  · exact fun h => List.mem_map.mpr ⟨w, h, rfl⟩
theorem semi_ok : okC [59] := by intro c hc; rw [List.mem_singleton.mp hc]; decide
theorem valveP (hx : exOk ex) (h : QI q) (hf : q.fa.length ≤ 8000000) : F_Parser_valve [.obj 0, .val t.d] (PSt (ts.map Tk.d) q.ps ex) = some (.ok (nV (mValve t q).1), PSt (ts.map Tk.d) (mValve t q).2.ps ex) := by
  unfold mValve
  by_cases hm : t.t ∈ q.na
  · rw [if_pos hm]
    have hl : q.na.idxOf t.t < q.na.length := List.idxOf_lt_length_iff.mpr hm
    have hj : (q.na.map Sc)[q.na.idxOf t.t]? = some (Sc t.t) := by
      rw [List.getElem?_map, List.getElem?_eq_getElem hl, List.getElem_idxOf hl]; rfl
    exact valve_eq hx h.nm (ps_na q) hj
  · rw [if_neg hm]
    have e1 := in_names (toks := ts.map Tk.d) (ex := ex) h.nm (ps_na q) (Sc t.t)
    rw [decide_eq_false (fun z => hm (mem_Sc.mp z))] at e1
    have e2 := foundP (ts := ts) (q := q) (t := t) (s := "unknown") hx hf
    simp [-exitC, F_Parser_valve, b_Parser_valve, e1, e2, exit_rt0 hx]
theorem numberP (g : GT ts) (hx : exOk ex) (hi : q.i < ts.length) (hf : q.fa.length ≤ 8000000) (w : String) (hw : okC (cds w)) (hw0 : cds w ≠ []) (hn : Nat) :
    (∃ n q', mNumber ts w hn q = .ok (n, q') ∧ n < 100 ∧ q'.i = q.i + 3 ∧ q'.i < ts.length ∧ (∃ t, q' = { q with i := q.i + 3 } ∧ 1 ≤ n ∧ n ≤ hn ∨ q' = mFound (Str.ofString w) t { q with i := q.i + 3 }) ∧ F_Parser_parse_number [.obj 0, .val (.str (Str.ofString w)), .val (.int (hn : Nat))] (PSt (ts.map Tk.d) q.ps ex) = some (.ok (nV n), PSt (ts.map Tk.d) q'.ps ex)) ∨
    (∃ l c p', mNumber ts w hn q = .error (l, c) ∧ F_Parser_parse_number [.obj 0, .val (.str (Str.ofString w)), .val (.int (hn : Nat))] (PSt (ts.map Tk.d) q.ps ex) = some (.error (synX l c), PSt (ts.map Tk.d) p' ex)) := by
  have lw : Str.ofString w = Sc (cds w) := Sc_of w
  unfold mNumber F_Parser_parse_number asC b_Parser_parse_number
  rw [show mkSl 4 [.obj 0, .val (.str (Str.ofString w)), .val (.int (hn : Nat))] = [some (.obj 0), some (.val (.str (Str.ofString w))), some (nV hn), none] from rfl, show (PSt (ts.map Tk.d) q.ps ex).length = ex.length + 5 from rfl]
  rcases wordP g hx hi hw hw0 with ⟨t1, _, _, _, hi1, m1, f1⟩ | ⟨l, c, m1, f1⟩
  · rw [← lw] at f1
    have b1 := meth1 (k := 0) (sl := [some (.obj 0), some (.val (.str (Str.ofString w))), some (nV hn), none]) (e := eVar 1) p_var (p_chk "take_word") (var_val (i := 1) rfl) f1
    rcases takeP (q := { q with i := q.i + 1 }) g hx hi1 (k := "number") (strOk_lit _) (ne_end "number") with ⟨t, _, hk, hok, hi2, m2, f2⟩ | ⟨l, c, m2, f2⟩
    · have b2 := meth1 (k := 0) (sl := [some (.obj 0), some (.val (.str (Str.ofString w))), some (nV hn), none]) (e := eC (.str "number")) p_var (p_chk "take") rfl f2
      rcases wordP (q := { q with i := q.i + 1 + 1 }) g hx hi2 semi_ok (by simp) with ⟨t3, _, _, _, hi3, m3, f3⟩ | ⟨l, c, m3, f3⟩
      · rw [← lit_semi] at f3
        have b3 := meth1 (k := 0) (sl := [some (.obj 0), some (.val (.str (Str.ofString w))), some (nV hn), some (.val t.d)]) (e := eC (.str ";")) p_var (p_chk "take_word") rfl f3
        obtain ⟨nu, n100⟩ := tk_num hok hk
        left
        have tx : ∀ (p : PS), eArgs (g1 gInt) (aCons (eFld ["Token"] "text" (eVar 3)) aNil) [some (.obj 0), some (.val (.str (Str.ofString w))), some (nV hn), some (.val t.d)] (PSt (ts.map Tk.d) p ex) = some (.ok (nV (tval t.t)), PSt (ts.map Tk.d) p ex) := fun p => by
          simp [gInt_num nu]
        have ch : tNotM (tOfE (eChain gLe gLe (eC (.int 1)) (eArgs (g1 gInt) (aCons (eFld ["Token"] "text" (eVar 3)) aNil)) (eVar 2))) [some (.obj 0), some (.val (.str (Str.ofString w))), some (nV hn), some (.val t.d)] (PSt (ts.map Tk.d) (PQ.ps { q with i := q.i + 1 + 1 + 1 }) ex) = some (.ok (!(decide (1 ≤ tval t.t) && decide (tval t.t ≤ hn))), PSt (ts.map Tk.d) (PQ.ps { q with i := q.i + 1 + 1 + 1 }) ex) := by
          refine tnot (tof ?_)
          have e1 : ((1 : Int) ≤ (tval t.t : Int)) ↔ 1 ≤ tval t.t := by omega
          have e2 : ((tval t.t : Int) ≤ (hn : Int)) ↔ tval t.t ≤ hn := by omega
          unfold eChain
          simp only [M.bind, tx, eC, M.pure, var_val (i := 2) (sl := [some (.obj 0), some (.val (.str (Str.ofString w))), some (nV hn), some (.val t.d)]) (v := .int hn) rfl]
          by_cases h1 : 1 ≤ tval t.t
          · by_cases h2 : tval t.t ≤ hn <;> simp [h1, h2, e1, e2]
          · simp [h1, e1]
        by_cases hr : 1 ≤ tval t.t ∧ tval t.t ≤ hn
        · rw [show (!(decide (1 ≤ tval t.t) && decide (tval t.t ≤ hn))) = false by simp [hr.1, hr.2]] at ch
          refine ⟨tval t.t, { q with i := q.i + 3 }, ?_, n100, rfl, hi3, ⟨t, .inl ⟨rfl, hr.1, hr.2⟩⟩, ?_⟩
          · rw [m1]; simp only [pbind]; rw [m2]; simp only; rw [m3]; simp only; rw [if_pos hr]
          · rw [(seq_nx (expr_nx b1)).trans ((seq_nx (set_nx b2)).trans ((seq_nx (expr_nx b3)).trans ((guard_f ch).trans (ret_ok (tx _)))))]
            exact exit_rt0 hx _ _
        · rw [show (!(decide (1 ≤ tval t.t) && decide (tval t.t ≤ hn))) = true by
            by_cases h1 : 1 ≤ tval t.t
            · have h2 : ¬ tval t.t ≤ hn := fun z => hr ⟨h1, z⟩
              simp [h1, h2]
            · simp [h1]] at ch
          refine ⟨tval t.t, mFound (Str.ofString w) t { q with i := q.i + 3 }, ?_, n100, rfl, hi3, ⟨t, .inr rfl⟩, ?_⟩
          · rw [m1]; simp only [pbind]; rw [m2]; simp only; rw [m3]; simp only; rw [if_neg hr]
          · have fo := meth2 (sl := [some (.obj 0), some (.val (.str (Str.ofString w))), some (nV hn), some (.val t.d)]) (e := eVar 1) (f := eVar 3) p_var (p_chk "found") (var_val (i := 1) rfl) (var_val (i := 3) (v := t.d) rfl) (foundP (ts := ts) (q := { q with i := q.i + 1 + 1 + 1 }) (t := t) (s := Str.ofString w) hx hf)
            rw [(seq_nx (expr_nx b1)).trans ((seq_nx (set_nx b2)).trans ((seq_nx (expr_nx b3)).trans ((seq_nx ((if_t ch).trans (expr_nx fo))).trans (ret_ok (tx _)))))]
            exact exit_rt0 hx _ _
      · rw [← lit_semi] at f3
        right
        have b3 := meth1x (sl := [some (.obj 0), some (.val (.str (Str.ofString w))), some (nV hn), some (.val t.d)]) (e := eC (.str ";")) p_var (p_chk "take_word") rfl f3
        refine ⟨l, c, PQ.ps { q with i := q.i + 1 + 1 }, by rw [m1]; simp only [pbind]; rw [m2]; simp only; rw [m3], ?_⟩
        rw [(seq_nx (expr_nx b1)).trans ((seq_nx (set_nx b2)).trans (seq_xc (expr_xc b3)))]
        exact exit_xc0 hx _ _
    · right
      have b2 := meth1x (sl := [some (.obj 0), some (.val (.str (Str.ofString w))), some (nV hn), none]) (e := eC (.str "number")) p_var (p_chk "take") rfl f2
      refine ⟨l, c, PQ.ps { q with i := q.i + 1 }, by rw [m1]; simp only [pbind]; rw [m2], ?_⟩
      rw [(seq_nx (expr_nx b1)).trans (seq_xc (set_xc b2))]
      exact exit_xc0 hx _ _
  · right
    rw [← lw] at f1
    have b1 := meth1x (sl := [some (.obj 0), some (.val (.str (Str.ofString w))), some (nV hn), none]) (e := eVar 1) p_var (p_chk "take_word") (var_val (i := 1) rfl) f1
    refine ⟨l, c, q.ps, by rw [m1]; rfl, ?_⟩
    rw [seq_xc (expr_xc b1)]
    exact exit_xc0 hx _ _
end
end G
namespace G
open PySem L2 Cl
section
variable {ts : List Tk} {q : PQ} {ex : List O} {t : Tk} {sl : Sl}
theorem QI.go (h : QI q) (k : Nat) : QI { q with i := q.i + k } := ⟨h.nd, h.ok, h.n8, by have := h.fa; show q.fa.length ≤ 4 * (q.i + k); omega, h.fn, by have := h.st; show q.sts.length ≤ q.i + k; omega, by have := h.pa; show q.pa.length ≤ q.i + k; omega⟩
theorem QI.found (h : QI q) (s : Str) (t : Tk) (hf : q.fa.length + 1 ≤ 4 * q.i) : QI (mFound s t q) := by
  refine ⟨h.nd, h.ok, h.n8, ?_, ?_, h.st, h.pa⟩
  · show (q.fa ++ [(t.l, t.c, q.fa.length, s)]).length ≤ 4 * q.i
    rw [List.length_append, List.length_singleton]; exact hf
  · show (q.fa ++ [(t.l, t.c, q.fa.length, s)]).map (·.2.2.1) = List.range (q.fa ++ [(t.l, t.c, q.fa.length, s)]).length
    rw [List.map_append, h.fn, List.length_append, List.length_singleton, List.range_succ]; rfl
theorem QI.f8 (h : QI q) (g : GT ts) (hi : q.i ≤ ts.length) : q.fa.length ≤ 8000000 := by have := h.fa; have := g.sz; omega
theorem okC_cds (w : String) : okC (cds w) := fun c hc => by
  have h := strOk_lit w
  rw [Sc_of] at h
  unfold PyData.strOk at h
  rw [← Array.all_toList] at h
  have := List.all_eq_true.mp h c (by show c ∈ (Sc (cds w)).cps.toList; simpa [Sc, -List.mem_map] using hc)
  simpa using this
theorem var0 {p : PS} (h0 : sl[0]? = some (some (.obj 0))) {toks : List D} : eVar 0 sl (PSt toks p ex) = some (.ok (.obj 0), PSt toks p ex) := by simp [h0]
/-- self.take_word(w) -/
theorem eWordP (g : GT ts) (hx : exOk ex) (hi : q.i < ts.length) (w : String) (hne : cds w ≠ []) (h0 : sl[0]? = some (some (.obj 0))) :
    (∃ q', mWord ts (cds w) q = .ok ((), q') ∧ q' = { q with i := q.i + 1 } ∧ q'.i < ts.length ∧ eMeth ["Parser"] "take_word" (gCallO 2 F_Parser_take_word []) (eVar 0) (aCons (eC (.str (Str.ofString w))) aNil) sl (PSt (ts.map Tk.d) q.ps ex) = some (.ok (.val .non), PSt (ts.map Tk.d) q'.ps ex)) ∨
    (∃ l c, mWord ts (cds w) q = .error (l, c) ∧ eMeth ["Parser"] "take_word" (gCallO 2 F_Parser_take_word []) (eVar 0) (aCons (eC (.str (Str.ofString w))) aNil) sl (PSt (ts.map Tk.d) q.ps ex) = some (.error (synX l c), PSt (ts.map Tk.d) q.ps ex)) := by
  have lw : Str.ofString w = Sc (cds w) := Sc_of w
  rcases wordP g hx hi (okC_cds w) hne with ⟨t1, _, _, _, hi1, m1, f1⟩ | ⟨l, c, m1, f1⟩
  · rw [← lw] at f1
    exact .inl ⟨_, m1, rfl, hi1, meth1 (k := 0) (var0 h0) (p_chk "take_word") rfl f1⟩
  · rw [← lw] at f1
    exact .inr ⟨l, c, m1, meth1x (var0 h0) (p_chk "take_word") rfl f1⟩
/-- self.take(k) -/
theorem eTakeP (g : GT ts) (hx : exOk ex) (hi : q.i < ts.length) (k : String) (hne : Str.ofString k ≠ "end") (h0 : sl[0]? = some (some (.obj 0))) :
    (∃ t q', mTake ts (Str.ofString k) q = .ok (t, q') ∧ q' = { q with i := q.i + 1 } ∧ q'.i < ts.length ∧ TkOk t ∧ t.k = Str.ofString k ∧ eMeth ["Parser"] "take" (gCallO 2 F_Parser_take []) (eVar 0) (aCons (eC (.str (Str.ofString k))) aNil) sl (PSt (ts.map Tk.d) q.ps ex) = some (.ok (.val t.d), PSt (ts.map Tk.d) q'.ps ex)) ∨
    (∃ l c, mTake ts (Str.ofString k) q = .error (l, c) ∧ eMeth ["Parser"] "take" (gCallO 2 F_Parser_take []) (eVar 0) (aCons (eC (.str (Str.ofString k))) aNil) sl (PSt (ts.map Tk.d) q.ps ex) = some (.error (synX l c), PSt (ts.map Tk.d) q.ps ex)) := by
  rcases takeP g hx hi (k := Str.ofString k) (strOk_lit _) hne with ⟨t, _, hk, hok, hi2, m2, f2⟩ | ⟨l, c, m2, f2⟩
  · exact .inl ⟨t, _, m2, rfl, hi2, hok, hk, meth1 (k := 0) (var0 h0) (p_chk "take") rfl f2⟩
  · exact .inr ⟨l, c, m2, meth1x (var0 h0) (p_chk "take") rfl f2⟩
theorem eFoundP (hx : exOk ex) {s : Str} {a : Nat} (hf : q.fa.length ≤ 8000000) (h0 : sl[0]? = some (some (.obj 0))) (ha : sl[a]? = some (some (.val t.d))) :
    eMeth ["Parser"] "found" (gCallO 3 F_Parser_found []) (eVar 0) (aCons (eC (.str s)) (aCons (eVar a) aNil)) sl (PSt (ts.map Tk.d) q.ps ex) = some (.ok (.val .non), PSt (ts.map Tk.d) (mFound s t q).ps ex) :=
  meth2 (var0 h0) (p_chk "found") rfl (var_val ha) (foundP hx hf)
theorem eIntP {a : Nat} (ht : TkOk t) (hk : t.k = "number") (ha : sl[a]? = some (some (.val t.d))) (st : List O) : eArgs (g1 gInt) (aCons (eFld ["Token"] "text" (eVar a)) aNil) sl st = some (.ok (nV (tval t.t)), st) := by
  obtain ⟨nu, _⟩ := tk_num ht hk
  have e1 : eFld ["Token"] "text" (eVar a) sl st = some (.ok (.val (.str (Sc t.t))), st) := by
    simp [ha]
  rw [args1 e1]
  exact gInt_num nu st
/-- an if that may find a fault -/
theorem maybe_found {c : MT} {s : Str} {a : Nat} {b : Bool} (hx : exOk ex) (hf : q.fa.length ≤ 8000000) (h0 : sl[0]? = some (some (.obj 0))) (ha : sl[a]? = some (some (.val t.d))) (hc : c sl (PSt (ts.map Tk.d) q.ps ex) = some (.ok b, PSt (ts.map Tk.d) q.ps ex)) :
    sIf c (sExpr (eMeth ["Parser"] "found" (gCallO 3 F_Parser_found []) (eVar 0) (aCons (eC (.str s)) (aCons (eVar a) aNil)))) sNext sl (PSt (ts.map Tk.d) q.ps ex) = some (.nx, sl, PSt (ts.map Tk.d) (if b = true then mFound s t q else q).ps ex) := by
  cases b with
  | true => rw [if_t hc]; exact expr_nx (eFoundP hx hf h0 ha)
  | false => rw [if_f hc]; rfl
theorem peekP (g : GT ts) (hx : exOk ex) (hi : q.i < ts.length) (h0 : sl[0]? = some (some (.obj 0))) : ∃ t, ts[q.i]? = some t ∧ PyData.strOk t.k = true ∧ okC t.t ∧ ((t.k = "end" ∧ t.t = []) ∨ (TkOk t ∧ q.i + 1 < ts.length)) ∧ eMeth ["Parser"] "peek" (gCallO 1 F_Parser_peek []) (eVar 0) aNil sl (PSt (ts.map Tk.d) q.ps ex) = some (.ok (.val t.d), PSt (ts.map Tk.d) q.ps ex) := by
  obtain ⟨t, h1, h2, h3, h4⟩ := g.at hi
  refine ⟨t, h1, h3, h2, h4, ?_⟩
  have hF := peek_eq hx (toks_get h1)
  unfold eMeth
  simp only [M.bind, var0 h0, p_chk "peek", aNil, M.pure]
  simp only [gCallO, List.map_nil, List.append_nil, List.length_cons, List.length_nil, if_true]
  exact hF
end
def mStart (ts : List Tk) (len : Nat) (q : PQ) : PR Unit := match ts[q.i]? with
  | none => .error (0, 0)
  | some kt => pbind (mWord ts (cds "start") q) fun _ q => pbind (mTake ts "name" q) fun t q => pbind (mTake ts "number" (mValve t q).2) fun tk q1 => pbind (mWord ts (cds "for") q1) fun _ q1 => pbind (mTake ts "number" q1) fun wt q1 => pbind (mWord ts (cds ";") q1) fun _ q1 =>
    let q2 := if decide (len ≤ tval tk.t) = true then mFound "tick" tk q1 else q1
    let q3 := if (!(decide (1 ≤ tval wt.t) && decide (tval wt.t ≤ 30))) = true then mFound "length" wt q2 else q2
    let q4 := if decide (q3.sts.length = 20) = true then mFound "starts" kt q3 else q3
    .ok ((), { q4 with sts := q4.sts ++ [(tval tk.t, (mValve t q).1, tval wt.t)] })
section
variable {ts : List Tk} {q : PQ} {ex : List O} {t : Tk} {sl : Sl}
theorem mValve_qi (h : QI q) (hf : q.fa.length + 1 ≤ 4 * q.i) : QI (mValve t q).2 ∧ (mValve t q).2.i = q.i ∧ (mValve t q).2.fa.length ≤ q.fa.length + 1 ∧ (mValve t q).2.sts = q.sts ∧ (mValve t q).2.pa = q.pa ∧ (mValve t q).2.na = q.na ∧ (mValve t q).2.r = q.r := by
  unfold mValve
  split
  · exact ⟨h, rfl, Nat.le_succ _, rfl, rfl, rfl, rfl⟩
  · exact ⟨h.found _ _ hf, rfl, by simp [mFound], rfl, rfl, rfl, rfl⟩
theorem chain30 {a : Nat} {n : Nat} {e : ME} {st : List O} (h : e sl st = some (.ok (nV n), st)) : tNotM (tOfE (eChain gLe gLe (eC (.int 1)) e (eC (.int 30)))) sl st = some (.ok (!(decide (1 ≤ n) && decide (n ≤ 30))), st) := by
  refine tnot (tof ?_)
  have e1 : ((1 : Int) ≤ (n : Int)) ↔ 1 ≤ n := by omega
  have e2 : ((n : Int) ≤ (30 : Int)) ↔ n ≤ 30 := by omega
  unfold eChain
  simp only [M.bind, h, eC, M.pure]
  by_cases h1 : 1 ≤ n
  · by_cases h2 : n ≤ 30 <;> simp [h1, h2, e1, e2]
  · simp [h1, e1]
theorem startP (g : GT ts) (hx : exOk ex) (hi : q.i < ts.length) (h : QI q) (len : Nat) :
    (∃ q', mStart ts len q = .ok ((), q') ∧ q'.i = q.i + 6 ∧ q'.i < ts.length ∧ QI q' ∧ F_Parser_parse_start [.obj 0, nV len] (PSt (ts.map Tk.d) q.ps ex) = some (.ok (.val .non), PSt (ts.map Tk.d) q'.ps ex)) ∨
    (∃ l c p', mStart ts len q = .error (l, c) ∧ F_Parser_parse_start [.obj 0, nV len] (PSt (ts.map Tk.d) q.ps ex) = some (.error (synX l c), PSt (ts.map Tk.d) p' ex)) := by
  have hsz := g.sz
  have hfa := h.fa
  unfold mStart F_Parser_parse_start asC b_Parser_parse_start
  rw [show mkSl 6 [.obj 0, nV len] = [some (.obj 0), some (nV len), none, none, none, none] from rfl, show (PSt (ts.map Tk.d) q.ps ex).length = ex.length + 5 from rfl]
  obtain ⟨kt, k1, _, _, _, k5⟩ := peekP (sl := [some (.obj 0), some (nV len), none, none, none, none]) g hx hi rfl
  rw [k1, seq_nx (set_nx k5)]
  simp only [List.set_cons_succ, List.set_cons_zero]
  rcases eWordP (sl := [some (.obj 0), some (nV len), some (.val kt.d), none, none, none]) g hx hi "start" (by decide) rfl with ⟨q1, m1, rfl, hi1, f1⟩ | ⟨l, c, m1, f1⟩
  rotate_left
  · exact .inr ⟨l, c, q.ps, by rw [m1]; rfl, by rw [seq_xc (expr_xc f1)]; exact exit_xc0 hx _ _⟩
  rw [m1, seq_nx (expr_nx f1)]
  simp only [pbind]
  rcases eTakeP (sl := [some (.obj 0), some (nV len), some (.val kt.d), none, none, none]) g hx hi1 "name" (ne_end "name") rfl with ⟨t, q2, m2, rfl, hi2, ht, htk, f2⟩ | ⟨l, c, m2, f2⟩
  rotate_left
  · refine .inr ⟨l, c, PQ.ps { q with i := q.i + 1 }, by rw [m2], ?_⟩
    have b2 : eMeth ["Parser"] "valve" (gCallO 2 F_Parser_valve []) (eVar 0) (aCons (eMeth ["Parser"] "take" (gCallO 2 F_Parser_take []) (eVar 0) (aCons (eC (.str "name")) aNil)) aNil) [some (.obj 0), some (nV len), some (.val kt.d), none, none, none] (PSt (ts.map Tk.d) (PQ.ps { q with i := q.i + 1 }) ex) = some (.error (synX l c), PSt (ts.map Tk.d) (PQ.ps { q with i := q.i + 1 }) ex) := by
      unfold eMeth at f2 ⊢
      simp only [M.bind, var0 (sl := [some (.obj 0), some (nV len), some (.val kt.d), none, none, none]) (ex := ex) rfl, p_chk "valve", aCons] at f2 ⊢
      rw [f2]
    rw [seq_xc (set_xc b2)]
    exact exit_xc0 hx _ _
  rw [m2]
  have hq2 : QI { q with i := q.i + 1 + 1 } := h.go 2
  have hq2f : ({ q with i := q.i + 1 + 1 } : PQ).fa.length + 1 ≤ 4 * ({ q with i := q.i + 1 + 1 } : PQ).i := by show q.fa.length + 1 ≤ 4 * (q.i + 1 + 1); omega
  obtain ⟨v1, v2, v3, v4, v5, v6, v7⟩ := mValve_qi (t := t) hq2 hq2f
  have vF := valveP (ts := ts) (t := t) (q := { q with i := q.i + 1 + 1 }) hx hq2 (by show q.fa.length ≤ 8000000; omega)
  have b2 : eMeth ["Parser"] "valve" (gCallO 2 F_Parser_valve []) (eVar 0) (aCons (eMeth ["Parser"] "take" (gCallO 2 F_Parser_take []) (eVar 0) (aCons (eC (.str "name")) aNil)) aNil) [some (.obj 0), some (nV len), some (.val kt.d), none, none, none] (PSt (ts.map Tk.d) (PQ.ps { q with i := q.i + 1 }) ex) = some (.ok (nV (mValve t { q with i := q.i + 1 + 1 }).1), PSt (ts.map Tk.d) (mValve t { q with i := q.i + 1 + 1 }).2.ps ex) :=
    meth1 (k := 0) (var0 rfl) (p_chk "valve") f2 vF
  rw [seq_nx (set_nx b2)]
  simp only [List.set_cons_succ, List.set_cons_zero]
  generalize hmv : mValve t { q with i := q.i + 1 + 1 } = mv at *
  obtain ⟨v, qv⟩ := mv
  simp only at v1 v2 v3 v4 v5 v6 v7 ⊢
  have hiv : qv.i < ts.length := by rw [v2]; exact hi2
  rcases eTakeP (q := qv) (sl := [some (.obj 0), some (nV len), some (.val kt.d), some (nV v), none, none]) g hx hiv "number" (ne_end "number") rfl with ⟨tk, q3, m3, rfl, hi3, htk3, htkk, f3⟩ | ⟨l, c, m3, f3⟩
  rotate_left
  · exact .inr ⟨l, c, qv.ps, by rw [m3], by rw [seq_xc (set_xc f3)]; exact exit_xc0 hx _ _⟩
  rw [m3, seq_nx (set_nx f3)]
  simp only [List.set_cons_succ, List.set_cons_zero]
  rcases eWordP (q := { qv with i := qv.i + 1 }) (sl := [some (.obj 0), some (nV len), some (.val kt.d), some (nV v), some (.val tk.d), none]) g hx hi3 "for" (by decide) rfl with ⟨q4, m4, rfl, hi4, f4⟩ | ⟨l, c, m4, f4⟩
  rotate_left
  · exact .inr ⟨l, c, PQ.ps { qv with i := qv.i + 1 }, by rw [m4], by rw [seq_xc (expr_xc f4)]; exact exit_xc0 hx _ _⟩
  rw [m4, seq_nx (expr_nx f4)]
  simp only
  rcases eTakeP (q := { qv with i := qv.i + 1 + 1 }) (sl := [some (.obj 0), some (nV len), some (.val kt.d), some (nV v), some (.val tk.d), none]) g hx hi4 "number" (ne_end "number") rfl with ⟨wt, q5, m5, rfl, hi5, hwt, hwtk, f5⟩ | ⟨l, c, m5, f5⟩
  rotate_left
  · exact .inr ⟨l, c, PQ.ps { qv with i := qv.i + 1 + 1 }, by rw [m5], by rw [seq_xc (set_xc f5)]; exact exit_xc0 hx _ _⟩
  rw [m5, seq_nx (set_nx f5)]
  simp only [List.set_cons_succ, List.set_cons_zero]
  rcases eWordP (q := { qv with i := qv.i + 1 + 1 + 1 }) (sl := [some (.obj 0), some (nV len), some (.val kt.d), some (nV v), some (.val tk.d), some (.val wt.d)]) g hx hi5 ";" (by decide) rfl with ⟨q6, m6, rfl, hi6, f6⟩ | ⟨l, c, m6, f6⟩
  rotate_left
  · exact .inr ⟨l, c, PQ.ps { qv with i := qv.i + 1 + 1 + 1 }, by rw [m6], by rw [seq_xc (expr_xc f6)]; exact exit_xc0 hx _ _⟩
  rw [m6, seq_nx (expr_nx f6)]
  simp only
  left
  have hf0 : qv.fa.length ≤ 4 * q.i + 1 := by
    have : ({ q with i := q.i + 1 + 1 } : PQ).fa.length = q.fa.length := rfl
    omega
  have Q1 : QI { qv with i := qv.i + 1 + 1 + 1 + 1 } := v1.go 4
  generalize hqa : ({ qv with i := qv.i + 1 + 1 + 1 + 1 } : PQ) = qa at Q1 hi6 ⊢
  have ia : qa.i = q.i + 6 := by rw [← hqa]; show qv.i + 1 + 1 + 1 + 1 = _; rw [v2]
  have fa0 : qa.fa.length ≤ 4 * q.i + 1 := by rw [← hqa]; exact hf0
  have sa : qa.sts = q.sts := by rw [← hqa]; exact v4
  have hpa : qa.pa = q.pa := by rw [← hqa]; exact v5
  -- the tick
  have c1 : tBin gGe (eArgs (g1 gInt) (aCons (eFld ["Token"] "text" (eVar 4)) aNil)) (eVar 1) [some (.obj 0), some (nV len), some (.val kt.d), some (nV v), some (.val tk.d), some (.val wt.d)] (PSt (ts.map Tk.d) qa.ps ex) = some (.ok (decide (len ≤ tval tk.t)), PSt (ts.map Tk.d) qa.ps ex) := tbin (by
    rw [bin_ok (eIntP htk3 htkk rfl _) (var_val (i := 1) (v := .int len) rfl)]
    have e : (decide ((len : Int) ≤ (tval tk.t : Int))) = decide (len ≤ tval tk.t) := decide_eq_decide.mpr (by omega)
    rw [← e]; rfl)
  rw [seq_nx (maybe_found hx (by omega) rfl rfl c1)]
  have Q2 : QI (if decide (len ≤ tval tk.t) = true then mFound "tick" tk qa else qa) := by
    split
    · exact Q1.found _ _ (by omega)
    · exact Q1
  have fl2 : (if decide (len ≤ tval tk.t) = true then mFound "tick" tk qa else qa).fa.length ≤ 4 * q.i + 2 ∧ (if decide (len ≤ tval tk.t) = true then mFound "tick" tk qa else qa).i = q.i + 6 ∧ (if decide (len ≤ tval tk.t) = true then mFound "tick" tk qa else qa).sts = q.sts ∧ (if decide (len ≤ tval tk.t) = true then mFound "tick" tk qa else qa).pa = q.pa := by
    split
    · exact ⟨by simp [mFound]; omega, ia, sa, hpa⟩
    · exact ⟨by omega, ia, sa, hpa⟩
  generalize (if decide (len ≤ tval tk.t) = true then mFound "tick" tk qa else qa) = qb at Q2 fl2 ⊢
  have c2 := chain30 (a := 0) (eIntP (sl := [some (.obj 0), some (nV len), some (.val kt.d), some (nV v), some (.val tk.d), some (.val wt.d)]) (a := 5) hwt hwtk rfl (PSt (ts.map Tk.d) qb.ps ex))
  rw [seq_nx (maybe_found hx (by omega) rfl rfl c2)]
  have Q3 : QI (if (!(decide (1 ≤ tval wt.t) && decide (tval wt.t ≤ 30))) = true then mFound "length" wt qb else qb) := by
    split
    · exact Q2.found _ _ (by omega)
    · exact Q2
  have fl3 : (if (!(decide (1 ≤ tval wt.t) && decide (tval wt.t ≤ 30))) = true then mFound "length" wt qb else qb).fa.length ≤ 4 * q.i + 3 ∧ (if (!(decide (1 ≤ tval wt.t) && decide (tval wt.t ≤ 30))) = true then mFound "length" wt qb else qb).i = q.i + 6 ∧ (if (!(decide (1 ≤ tval wt.t) && decide (tval wt.t ≤ 30))) = true then mFound "length" wt qb else qb).sts = q.sts ∧ (if (!(decide (1 ≤ tval wt.t) && decide (tval wt.t ≤ 30))) = true then mFound "length" wt qb else qb).pa = q.pa := by
    split
    · exact ⟨by simp [mFound]; omega, fl2.2.1, fl2.2.2.1, fl2.2.2.2⟩
    · exact ⟨by omega, fl2.2.1, fl2.2.2.1, fl2.2.2.2⟩
  generalize (if (!(decide (1 ≤ tval wt.t) && decide (tval wt.t ≤ 30))) = true then mFound "length" wt qb else qb) = qc at Q3 fl3 ⊢
  have c3 : tBin gEq (eArgs (g1 gLen) (aCons (eFld ["Parser"] "starts" (eVar 0)) aNil)) (eC (.int 20)) [some (.obj 0), some (nV len), some (.val kt.d), some (nV v), some (.val tk.d), some (.val wt.d)] (PSt (ts.map Tk.d) qc.ps ex) = some (.ok (decide (qc.sts.length = 20)), PSt (ts.map Tk.d) qc.ps ex) := tbin (by
    have el : eArgs (g1 gLen) (aCons (eFld ["Parser"] "starts" (eVar 0)) aNil) [some (.obj 0), some (nV len), some (.val kt.d), some (nV v), some (.val tk.d), some (.val wt.d)] (PSt (ts.map Tk.d) qc.ps ex) = some (.ok (nV qc.sts.length), PSt (ts.map Tk.d) qc.ps ex) := by
      have : qc.ps.sts.length = qc.sts.length := by simp [PQ.ps]
      simp [gLen, this]
    rw [bin_ok el rfl, gEq_int]
    have e : (decide ((qc.sts.length : Int) = (20 : Int))) = decide (qc.sts.length = 20) := decide_eq_decide.mpr (by omega)
    rw [e])
  rw [seq_nx (maybe_found hx (by omega) rfl rfl c3)]
  have Q4 : QI (if decide (qc.sts.length = 20) = true then mFound "starts" kt qc else qc) := by
    split
    · exact Q3.found _ _ (by omega)
    · exact Q3
  have fl4 : (if decide (qc.sts.length = 20) = true then mFound "starts" kt qc else qc).i = q.i + 6 ∧ (if decide (qc.sts.length = 20) = true then mFound "starts" kt qc else qc).sts = q.sts := by
    split
    · exact ⟨fl3.2.1, fl3.2.2.1⟩
    · exact ⟨fl3.2.1, fl3.2.2.1⟩
  generalize (if decide (qc.sts.length = 20) = true then mFound "starts" kt qc else qc) = qd at Q4 fl4 ⊢
  have hst := h.st
  refine ⟨{ qd with sts := qd.sts ++ [(tval tk.t, v, tval wt.t)] }, rfl, fl4.1, by show qd.i < _; rw [fl4.1, ← ia]; exact hi6, ⟨Q4.nd, Q4.ok, Q4.n8, Q4.fa, Q4.fn, ?_, Q4.pa⟩, ?_⟩
  · show (qd.sts ++ [(tval tk.t, v, tval wt.t)]).length ≤ qd.i
    rw [List.length_append, List.length_singleton, fl4.2, fl4.1]; omega
  · have hz : qd.sts.length < sizeLine := sizes (by rw [fl4.2]; omega)
    have tp : eArgs Cl.gTup (aCons (eArgs (g1 gInt) (aCons (eFld ["Token"] "text" (eVar 4)) aNil)) (aCons (eVar 3) (aCons (eArgs (g1 gInt) (aCons (eFld ["Token"] "text" (eVar 5)) aNil)) aNil))) [some (.obj 0), some (nV len), some (.val kt.d), some (nV v), some (.val tk.d), some (.val wt.d)] (PSt (ts.map Tk.d) qd.ps ex) = some (.ok (triV (tval tk.t, v, tval wt.t)), PSt (ts.map Tk.d) qd.ps ex) :=
      (args3 (eIntP htk3 htkk rfl _) (var_val (i := 3) (v := .int v) rfl) (eIntP hwt hwtk rfl _)).trans (tup3 _ _ _ _)
    have fs : eFld ["Parser"] "starts" (eVar 0) [some (.obj 0), some (nV len), some (.val kt.d), some (nV v), some (.val tk.d), some (.val wt.d)] (PSt (ts.map Tk.d) qd.ps ex) = some (.ok (.obj 3), PSt (ts.map Tk.d) qd.ps ex) := by simp
    have ap : eBM "list" gAppend (eFld ["Parser"] "starts" (eVar 0)) (aCons (eArgs Cl.gTup (aCons (eArgs (g1 gInt) (aCons (eFld ["Token"] "text" (eVar 4)) aNil)) (aCons (eVar 3) (aCons (eArgs (g1 gInt) (aCons (eFld ["Token"] "text" (eVar 5)) aNil)) aNil)))) aNil) [some (.obj 0), some (nV len), some (.val kt.d), some (nV v), some (.val tk.d), some (.val wt.d)] (PSt (ts.map Tk.d) qd.ps ex) = some (.ok (.val .non), PSt (ts.map Tk.d) (PQ.ps { qd with sts := qd.sts ++ [(tval tk.t, v, tval wt.t)] }) ex) := by
      rw [bm1 fs (chk_list P_3) tp, gApp_eq P_3 (by rw [List.length_map]; simpa [PQ.ps] using hz)]
      rw [P_set3 _ ((qd.sts ++ [(tval tk.t, v, tval wt.t)]).map triD) (by simp [PQ.ps])]
      rfl
    rw [expr_nx ap]
    exact exit_nx0 hx _
end
end G
namespace G
open PySem L2 Cl
def mPause (ts : List Tk) (len : Nat) (q : PQ) : PR Unit := pbind (mWord ts (cds "pause") q) fun _ q => pbind (mTake ts "number" q) fun a q => pbind (mTake ts "number" q) fun b q => pbind (mWord ts (cds ";") q) fun _ q =>
  let q1 := if len ≤ tval b.t then mFound "pause" b q else if tval b.t < tval a.t then mFound "pause" a q else q
  .ok ((), { q1 with pa := q1.pa ++ [(tval a.t, tval b.t)] })
section
variable {ts : List Tk} {q : PQ} {ex : List O} {t : Tk} {sl : Sl}
theorem par_x1 {i j : Nat} {a b : ME} {st st1 : List O} {x : XD} (h1 : a sl st = some (.error x, st1)) : sPar i j (aCons a (aCons b aNil)) sl st = some (.xc x, sl, st1) := by simp [h1]
theorem par_x2 {i j : Nat} {a b : ME} {st st1 st2 : List O} {y : S} {x : XD} (h1 : a sl st = some (.ok y, st1)) (h2 : b sl st1 = some (.error x, st2)) : sPar i j (aCons a (aCons b aNil)) sl st = some (.xc x, sl, st2) := by simp [h1, h2]
theorem pauseP (g : GT ts) (hx : exOk ex) (hi : q.i < ts.length) (h : QI q) (len : Nat) :
    (∃ q', mPause ts len q = .ok ((), q') ∧ q'.i = q.i + 4 ∧ q'.i < ts.length ∧ QI q' ∧ F_Parser_parse_pause [.obj 0, nV len] (PSt (ts.map Tk.d) q.ps ex) = some (.ok (.val .non), PSt (ts.map Tk.d) q'.ps ex)) ∨
    (∃ l c p', mPause ts len q = .error (l, c) ∧ F_Parser_parse_pause [.obj 0, nV len] (PSt (ts.map Tk.d) q.ps ex) = some (.error (synX l c), PSt (ts.map Tk.d) p' ex)) := by
  have hsz := g.sz
  have hfa := h.fa
  have hpa := h.pa
  unfold mPause F_Parser_parse_pause asC b_Parser_parse_pause
  rw [show mkSl 4 [.obj 0, nV len] = [some (.obj 0), some (nV len), none, none] from rfl, show (PSt (ts.map Tk.d) q.ps ex).length = ex.length + 5 from rfl]
  rcases eWordP (sl := [some (.obj 0), some (nV len), none, none]) g hx hi "pause" (by decide) rfl with ⟨q1, m1, rfl, hi1, f1⟩ | ⟨l, c, m1, f1⟩
  rotate_left
  · exact .inr ⟨l, c, q.ps, by rw [m1]; rfl, by rw [seq_xc (expr_xc f1)]; exact exit_xc0 hx _ _⟩
  rw [m1, seq_nx (expr_nx f1)]
  simp only [pbind]
  rcases eTakeP (q := { q with i := q.i + 1 }) (sl := [some (.obj 0), some (nV len), none, none]) g hx hi1 "number" (ne_end "number") rfl with ⟨a, q2, m2, rfl, hi2, ha, hak, f2⟩ | ⟨l, c, m2, f2⟩
  rotate_left
  · exact .inr ⟨l, c, PQ.ps { q with i := q.i + 1 }, by rw [m2], by rw [seq_xc (par_x1 f2)]; exact exit_xc0 hx _ _⟩
  rw [m2]
  simp only
  rcases eTakeP (q := { q with i := q.i + 1 + 1 }) (sl := [some (.obj 0), some (nV len), none, none]) g hx hi2 "number" (ne_end "number") rfl with ⟨b, q3, m3, rfl, hi3, hb, hbk, f3⟩ | ⟨l, c, m3, f3⟩
  rotate_left
  · exact .inr ⟨l, c, PQ.ps { q with i := q.i + 1 + 1 }, by rw [m3], by rw [seq_xc (par_x2 f2 f3)]; exact exit_xc0 hx _ _⟩
  rw [m3, seq_nx (par_ok f2 f3)]
  simp only [List.set_cons_succ, List.set_cons_zero]
  rcases eWordP (q := { q with i := q.i + 1 + 1 + 1 }) (sl := [some (.obj 0), some (nV len), some (.val a.d), some (.val b.d)]) g hx hi3 ";" (by decide) rfl with ⟨q4, m4, rfl, hi4, f4⟩ | ⟨l, c, m4, f4⟩
  rotate_left
  · exact .inr ⟨l, c, PQ.ps { q with i := q.i + 1 + 1 + 1 }, by rw [m4], by rw [seq_xc (expr_xc f4)]; exact exit_xc0 hx _ _⟩
  rw [m4, seq_nx (expr_nx f4)]
  simp only
  left
  have Q1 : QI { q with i := q.i + 1 + 1 + 1 + 1 } := h.go 4
  generalize hqa : ({ q with i := q.i + 1 + 1 + 1 + 1 } : PQ) = qa at Q1 hi4 ⊢
  have ia : qa.i = q.i + 4 := by rw [← hqa]
  have fa0 : qa.fa.length = q.fa.length := by rw [← hqa]
  have pa0 : qa.pa = q.pa := by rw [← hqa]
  have ea := eIntP (sl := [some (.obj 0), some (nV len), some (.val a.d), some (.val b.d)]) (a := 2) ha hak rfl
  have eb := eIntP (sl := [some (.obj 0), some (nV len), some (.val a.d), some (.val b.d)]) (a := 3) hb hbk rfl
  have c1 : tBin gGe (eArgs (g1 gInt) (aCons (eFld ["Token"] "text" (eVar 3)) aNil)) (eVar 1) [some (.obj 0), some (nV len), some (.val a.d), some (.val b.d)] (PSt (ts.map Tk.d) qa.ps ex) = some (.ok (decide (len ≤ tval b.t)), PSt (ts.map Tk.d) qa.ps ex) := tbin (by
    rw [bin_ok (eb _) (var_val (i := 1) (v := .int len) rfl)]
    have e : (decide ((len : Int) ≤ (tval b.t : Int))) = decide (len ≤ tval b.t) := decide_eq_decide.mpr (by omega)
    rw [← e]; rfl)
  have c2 : tBin gGt (eArgs (g1 gInt) (aCons (eFld ["Token"] "text" (eVar 2)) aNil)) (eArgs (g1 gInt) (aCons (eFld ["Token"] "text" (eVar 3)) aNil)) [some (.obj 0), some (nV len), some (.val a.d), some (.val b.d)] (PSt (ts.map Tk.d) qa.ps ex) = some (.ok (decide (tval b.t < tval a.t)), PSt (ts.map Tk.d) qa.ps ex) := tbin (by
    rw [bin_ok (ea _) (eb _)]
    have e : (decide ((tval b.t : Int) < (tval a.t : Int))) = decide (tval b.t < tval a.t) := decide_eq_decide.mpr (by omega)
    rw [← e]; rfl)
  have both : sIf (tBin gGe (eArgs (g1 gInt) (aCons (eFld ["Token"] "text" (eVar 3)) aNil)) (eVar 1)) (sExpr (eMeth ["Parser"] "found" (gCallO 3 F_Parser_found []) (eVar 0) (aCons (eC (.str "pause")) (aCons (eVar 3) aNil)))) (sIf (tBin gGt (eArgs (g1 gInt) (aCons (eFld ["Token"] "text" (eVar 2)) aNil)) (eArgs (g1 gInt) (aCons (eFld ["Token"] "text" (eVar 3)) aNil))) (sExpr (eMeth ["Parser"] "found" (gCallO 3 F_Parser_found []) (eVar 0) (aCons (eC (.str "pause")) (aCons (eVar 2) aNil)))) sNext) [some (.obj 0), some (nV len), some (.val a.d), some (.val b.d)] (PSt (ts.map Tk.d) qa.ps ex) =
      some (.nx, [some (.obj 0), some (nV len), some (.val a.d), some (.val b.d)], PSt (ts.map Tk.d) (if len ≤ tval b.t then mFound "pause" b qa else if tval b.t < tval a.t then mFound "pause" a qa else qa).ps ex) := by
    by_cases h1 : len ≤ tval b.t
    · rw [decide_eq_true h1] at c1
      rw [if_t c1, if_pos h1]
      exact expr_nx (eFoundP hx (by omega) rfl rfl)
    · rw [decide_eq_false h1] at c1
      rw [if_f c1, if_neg h1, maybe_found hx (by omega) rfl rfl c2]
      by_cases h2 : tval b.t < tval a.t <;> simp [h2]
  rw [seq_nx both]
  have Q2 : QI (if len ≤ tval b.t then mFound "pause" b qa else if tval b.t < tval a.t then mFound "pause" a qa else qa) := by
    split
    · exact Q1.found _ _ (by omega)
    · split
      · exact Q1.found _ _ (by omega)
      · exact Q1
  have fl : (if len ≤ tval b.t then mFound "pause" b qa else if tval b.t < tval a.t then mFound "pause" a qa else qa).i = q.i + 4 ∧ (if len ≤ tval b.t then mFound "pause" b qa else if tval b.t < tval a.t then mFound "pause" a qa else qa).pa = q.pa := by
    split
    · exact ⟨ia, pa0⟩
    · split
      · exact ⟨ia, pa0⟩
      · exact ⟨ia, pa0⟩
  generalize (if len ≤ tval b.t then mFound "pause" b qa else if tval b.t < tval a.t then mFound "pause" a qa else qa) = qd at Q2 fl ⊢
  refine ⟨{ qd with pa := qd.pa ++ [(tval a.t, tval b.t)] }, rfl, fl.1, by show qd.i < _; rw [fl.1, ← ia]; exact hi4, ⟨Q2.nd, Q2.ok, Q2.n8, Q2.fa, Q2.fn, Q2.st, ?_⟩, ?_⟩
  · show (qd.pa ++ [(tval a.t, tval b.t)]).length ≤ qd.i
    rw [List.length_append, List.length_singleton, fl.2, fl.1]; omega
  · have hz : qd.pa.length < sizeLine := sizes (by rw [fl.2]; omega)
    have tp := (args2 (ea (PSt (ts.map Tk.d) qd.ps ex)) (eb (PSt (ts.map Tk.d) qd.ps ex))).trans (tup2 _ _ _)
    have fs : eFld ["Parser"] "pauses" (eVar 0) [some (.obj 0), some (nV len), some (.val a.d), some (.val b.d)] (PSt (ts.map Tk.d) qd.ps ex) = some (.ok (.obj 4), PSt (ts.map Tk.d) qd.ps ex) := by simp
    have ap : eBM "list" gAppend (eFld ["Parser"] "pauses" (eVar 0)) (aCons (eArgs Cl.gTup (aCons (eArgs (g1 gInt) (aCons (eFld ["Token"] "text" (eVar 2)) aNil)) (aCons (eArgs (g1 gInt) (aCons (eFld ["Token"] "text" (eVar 3)) aNil)) aNil))) aNil) [some (.obj 0), some (nV len), some (.val a.d), some (.val b.d)] (PSt (ts.map Tk.d) qd.ps ex) = some (.ok (.val .non), PSt (ts.map Tk.d) (PQ.ps { qd with pa := qd.pa ++ [(tval a.t, tval b.t)] }) ex) := by
      rw [bm1 fs (chk_list P_4) tp, gApp_eq P_4 (by rw [List.length_map]; simpa [PQ.ps] using hz)]
      rw [P_set4 _ ((qd.pa ++ [(tval a.t, tval b.t)]).map prDp) (by simp [PQ.ps])]
      rfl
    rw [expr_nx ap]
    exact exit_nx0 hx _
end
def addV (q : PQ) (t : Tk) : PQ := if t.t ∈ q.na then mFound "duplicate" t q else if q.na.length = 8 then mFound "valves" t q else { q with na := q.na ++ [t.t] }
def mValves (ts : List Tk) (q : PQ) : PR Unit := pbind (mWord ts (cds "valves") q) fun _ q => pbind (mNames ts q) fun us q => .ok ((), us.foldl addV q)
section
variable {ts : List Tk} {q : PQ} {ex : List O} {t : Tk} {sl : Sl}
theorem addV_i (q : PQ) (t : Tk) : (addV q t).i = q.i ∧ (addV q t).fa.length ≤ q.fa.length + 1 := by
  unfold addV
  split
  · exact ⟨rfl, by simp [mFound]⟩
  · split
    · exact ⟨rfl, by simp [mFound]⟩
    · exact ⟨rfl, Nat.le_succ _⟩
theorem addV_qi (h : QI q) (ht : TkOk t) (hf : q.fa.length + 1 ≤ 4 * q.i) : QI (addV q t) := by
  unfold addV
  split
  · exact h.found _ _ hf
  · rename_i hn
    split
    · exact h.found _ _ hf
    · rename_i h8
      have n8 := h.n8
      exact ⟨List.nodup_append.mpr ⟨h.nd, (by simp), fun a ha b hb => by rw [List.mem_singleton.mp hb]; exact fun z => hn (by rw [← z]; exact ha)⟩, fun w hw => by
        rcases List.mem_append.mp hw with z | z
        · exact h.ok w z
        · rw [List.mem_singleton.mp z]; exact (tk_ok ht).1, by show (q.na ++ [t.t]).length ≤ 8; rw [List.length_append, List.length_singleton]; omega, h.fa, h.fn, h.st, h.pa⟩
theorem valve_turn (hx : exOk ex) (h : QI q) (ht : TkOk t) (hf : q.fa.length ≤ 8000000) : l1_Parser_parse_valves [some (.obj 0), some (.val t.d)] (PSt (ts.map Tk.d) q.ps ex) = some (.nx, [some (.obj 0), some (.val t.d)], PSt (ts.map Tk.d) (addV q t).ps ex) := by
  have e1 := in_names (toks := ts.map Tk.d) (ex := ex) h.nm (ps_na q) (Sc t.t)
  have tx : eFld ["Token"] "text" (eVar 1) [some (.obj 0), some (.val t.d)] (PSt (ts.map Tk.d) q.ps ex) = some (.ok (.val (.str (Sc t.t))), PSt (ts.map Tk.d) q.ps ex) := by simp
  have nm : eFld ["Parser"] "names" (eVar 0) [some (.obj 0), some (.val t.d)] (PSt (ts.map Tk.d) q.ps ex) = some (.ok (.obj 2), PSt (ts.map Tk.d) q.ps ex) := by simp
  have c1 : tBin (gInB false) (eFld ["Token"] "text" (eVar 1)) (eFld ["Parser"] "names" (eVar 0)) [some (.obj 0), some (.val t.d)] (PSt (ts.map Tk.d) q.ps ex) = some (.ok (decide (t.t ∈ q.na)), PSt (ts.map Tk.d) q.ps ex) := tbin (by
    rw [bin_ok tx nm, e1]
    have : decide (Sc t.t ∈ q.na.map Sc) = decide (t.t ∈ q.na) := decide_eq_decide.mpr mem_Sc
    rw [this])
  have hl : q.ps.na.length = q.na.length := by simp [PQ.ps]
  have c2 : tBin gEq (eArgs (g1 gLen) (aCons (eFld ["Parser"] "names" (eVar 0)) aNil)) (eC (.int 8)) [some (.obj 0), some (.val t.d)] (PSt (ts.map Tk.d) q.ps ex) = some (.ok (decide (q.na.length = 8)), PSt (ts.map Tk.d) q.ps ex) := tbin (by
    have el : eArgs (g1 gLen) (aCons (eFld ["Parser"] "names" (eVar 0)) aNil) [some (.obj 0), some (.val t.d)] (PSt (ts.map Tk.d) q.ps ex) = some (.ok (nV q.na.length), PSt (ts.map Tk.d) q.ps ex) := by
      simp [gLen, hl]
    rw [bin_ok el rfl, gEq_int]
    have e : (decide ((q.na.length : Int) = (8 : Int))) = decide (q.na.length = 8) := decide_eq_decide.mpr (by omega)
    rw [e])
  unfold l1_Parser_parse_valves addV
  by_cases h1 : t.t ∈ q.na
  · rw [decide_eq_true h1] at c1
    rw [if_t c1, if_pos h1]
    exact expr_nx (eFoundP hx hf rfl rfl)
  · rw [decide_eq_false h1] at c1
    rw [if_f c1, if_neg h1]
    by_cases h2 : q.na.length = 8
    · rw [decide_eq_true h2] at c2
      rw [if_t c2, if_pos h2]
      exact expr_nx (eFoundP hx hf rfl rfl)
    · rw [decide_eq_false h2] at c2
      rw [if_f c2, if_neg h2]
      refine expr_nx (x := .val .non) ?_
      have n8 := h.n8
      rw [bm1 nm (chk_list P_2) tx, gApp_eq P_2 (by rw [List.length_map, hl]; exact sizes (by omega))]
      rw [P_set2 _ ((q.na ++ [t.t]).map fun w => .str (Sc w)) (by simp [PQ.ps])]
      rfl
theorem valves_loopP (hx : exOk ex) : ∀ (us : List Tk) (q : PQ) (x : Option S), QI q → (∀ u ∈ us, TkOk u) → q.fa.length + us.length ≤ 4 * q.i → 4 * q.i ≤ 8000000 →
    QI (us.foldl addV q) ∧ (us.foldl addV q).i = q.i ∧ ∃ x', forL always (tgName 1) l1_Parser_parse_valves ((us.map Tk.d).map .val) [some (.obj 0), x] (PSt (ts.map Tk.d) q.ps ex) = some (.nx, [some (.obj 0), x'], PSt (ts.map Tk.d) (us.foldl addV q).ps ex)
  | [], q, x, h, _, _, _ => ⟨h, rfl, x, by rw [List.map_nil, List.map_nil, for_nil trivial]; rfl⟩
  | u :: us, q, x, h, hu, hf, hz => by
    simp only [List.length_cons] at hf
    obtain ⟨a1, a2⟩ := addV_i q u
    have hok := hu u List.mem_cons_self
    obtain ⟨i1, i2, x', i3⟩ := valves_loopP hx us (addV q u) (some (.val u.d)) (addV_qi h hok (by omega)) (fun v hv => hu v (List.mem_cons_of_mem _ hv)) (by rw [a1]; omega) (by rw [a1]; exact hz)
    rw [List.foldl_cons]
    refine ⟨i1, i2.trans a1, x', ?_⟩
    rw [List.map_cons, List.map_cons, for_cons (sl1 := [some (.obj 0), some (.val u.d)]) (st1 := PSt (ts.map Tk.d) q.ps ex) trivial rfl (valve_turn hx h hok (by omega))]
    exact i3
theorem meth0 {ns : List Str} {m : Str} {F : OF} {a : ME} {st st1 : List O} {x : S} {r : Except XD S} (h0 : a sl st = some (.ok x, st)) (hc : chkM ns m x st = some (.ok (), st)) (hF : F [x] st = some (r, st1)) : eMeth ns m (gCallO 1 F []) a aNil sl st = some (r, st1) := by
  unfold eMeth
  simp only [M.bind, h0, hc, aNil, M.pure]
  simp only [gCallO, List.map_nil, List.append_nil, List.length_cons, List.length_nil, if_true]
  exact hF
theorem iof_x {e : ME} {st st1 : List O} {x : XD} (h : e sl st = some (.error x, st1)) : iOf e sl st = some (.error x, st1) := by
  unfold iOf
  simp only [M.bind, h]
theorem valvesP (g : GT ts) (hx : exOk ex) (hi : q.i < ts.length) (h : QI q) :
    (∃ q', mValves ts q = .ok ((), q') ∧ q.i < q'.i ∧ q'.i < ts.length ∧ QI q' ∧ F_Parser_parse_valves [.obj 0] (PSt (ts.map Tk.d) q.ps ex) = some (.ok (.val .non), PSt (ts.map Tk.d) q'.ps ex)) ∨
    (∃ l c p', mValves ts q = .error (l, c) ∧ F_Parser_parse_valves [.obj 0] (PSt (ts.map Tk.d) q.ps ex) = some (.error (synX l c), PSt (ts.map Tk.d) p' ex)) := by
  have hsz := g.sz
  have hfa := h.fa
  unfold mValves F_Parser_parse_valves asC b_Parser_parse_valves
  rw [show mkSl 2 [.obj 0] = [some (.obj 0), none] from rfl, show (PSt (ts.map Tk.d) q.ps ex).length = ex.length + 5 from rfl]
  rcases eWordP (sl := [some (.obj 0), none]) g hx hi "valves" (by decide) rfl with ⟨q1, m1, rfl, hi1, f1⟩ | ⟨l, c, m1, f1⟩
  rotate_left
  · exact .inr ⟨l, c, q.ps, by rw [m1]; rfl, by rw [seq_xc (expr_xc f1)]; exact exit_xc0 hx _ _⟩
  rw [m1, seq_nx (expr_nx f1)]
  simp only [pbind]
  rcases namesP (q := { q with i := q.i + 1 }) g hx hi1 with ⟨us, q2, m2, rfl, hi2, hu, hne, f2⟩ | ⟨l, c, p', m2, f2⟩
  · left
    rw [m2]
    have b2 := iof_lst (meth0 (sl := [some (.obj 0), none]) (ns := ["Parser"]) (m := "take_names") (var0 rfl) (p_chk "take_names") f2)
    have hq2 : QI { q with i := q.i + 1 + us.length + 1 } := by
      have := h.go (1 + us.length + 1)
      rw [show q.i + (1 + us.length + 1) = q.i + 1 + us.length + 1 by omega] at this
      exact this
    obtain ⟨i1, i2, x', i3⟩ := valves_loopP (ts := ts) hx us { q with i := q.i + 1 + us.length + 1 } none hq2 (fun u h => (hu u h).1) (by show q.fa.length + us.length ≤ 4 * (q.i + 1 + us.length + 1); omega) (by
      have : q.i + 1 + us.length + 1 < ts.length := hi2
      show 4 * (q.i + 1 + us.length + 1) ≤ 8000000; omega)
    refine ⟨us.foldl addV { q with i := q.i + 1 + us.length + 1 }, rfl, by rw [i2]; show q.i < q.i + 1 + us.length + 1; omega, by rw [i2]; exact hi2, i1, ?_⟩
    rw [for_ok b2 i3]
    exact exit_nx0 hx _
  · right
    refine ⟨l, c, p', by rw [m2], ?_⟩
    rw [for_it (iof_x (meth0 (sl := [some (.obj 0), none]) (ns := ["Parser"]) (m := "take_names") (var0 rfl) (p_chk "take_names") f2))]
    exact exit_xc0 hx _ _
end
end G
namespace G
open PySem L2 Cl
def addR (s : List Nat × PQ) (t : Tk) : List Nat × PQ :=
  (s.1 ++ [(mValve t s.2).1], if t.t ∈ s.2.na ∧ (mValve t s.2).1 ∈ s.1 then mFound "rank" t (mValve t s.2).2 else (mValve t s.2).2)
def rankEnd (kt : Tk) (s : List Nat × PQ) : PQ := { (if s.2.r.isSome = true then mFound "twice" kt s.2 else s.2) with r := some s.1 }
def mRank (ts : List Tk) (q : PQ) : PR Unit := match ts[q.i]? with
  | none => .error (0, 0)
  | some kt => pbind (mWord ts (cds "rank") q) fun _ q => pbind (mNames ts q) fun us q =>
    .ok ((), rankEnd kt (us.foldl addR ([], q)))
section
variable {ts : List Tk} {q : PQ} {ex : List O} {t : Tk} {sl : Sl}
theorem addR_i (s : List Nat × PQ) (t : Tk) : (addR s t).2.i = s.2.i ∧ (addR s t).2.fa.length ≤ s.2.fa.length + 1 ∧ (addR s t).2.na = s.2.na ∧ (addR s t).2.r = s.2.r ∧ (addR s t).1.length = s.1.length + 1 := by
  unfold addR mValve
  by_cases h : t.t ∈ s.2.na
  · simp only [h, if_true, true_and]
    split
    · exact ⟨rfl, by simp [mFound], rfl, rfl, by simp⟩
    · exact ⟨rfl, Nat.le_succ _, rfl, rfl, by simp⟩
  · simp only [h, if_false, false_and]
    exact ⟨rfl, by simp [mFound], rfl, rfl, by simp⟩
theorem addR_qi {s : List Nat × PQ} (h : QI s.2) (hf : s.2.fa.length + 1 ≤ 4 * s.2.i) : QI (addR s t).2 := by
  unfold addR mValve
  by_cases hm : t.t ∈ s.2.na
  · simp only [hm, if_true, true_and]
    split
    · exact h.found _ _ hf
    · exact h
  · simp only [hm, if_false, false_and]
    exact h.found _ _ hf
theorem rank_turn (hx : exOk ex) {s : List Nat × PQ} {x1 x4 : Option S} (h : QI s.2) (ht : TkOk t) (hf : s.2.fa.length + 1 ≤ 4 * s.2.i) (hf2 : 4 * s.2.i ≤ 8000000) (hr : s.1.length ≤ 2000000) :
    l1_Parser_parse_rank [some (.obj 0), x1, some (.obj (ex.length + 5)), some (.val t.d), x4] (PSt (ts.map Tk.d) s.2.ps (ex ++ [.lst (s.1.map nV)])) = some (.nx, [some (.obj 0), x1, some (.obj (ex.length + 5)), some (.val t.d), some (nV (mValve t s.2).1)], PSt (ts.map Tk.d) (addR s t).2.ps (ex ++ [.lst ((addR s t).1.map nV)])) := by
  have hx2 : exOk (ex ++ [.lst (s.1.map nV)]) := by
    have := exOk_app hx (s.1.map iD)
    rwa [nV_map] at this
  obtain ⟨v1, v2, v3, v4, v5, v6, v7⟩ := mValve_qi (t := t) h hf
  have vF := valveP (ts := ts) (t := t) (q := s.2) hx2 h (by omega)
  have b1 : eMeth ["Parser"] "valve" (gCallO 2 F_Parser_valve []) (eVar 0) (aCons (eVar 3) aNil) [some (.obj 0), x1, some (.obj (ex.length + 5)), some (.val t.d), x4] (PSt (ts.map Tk.d) s.2.ps (ex ++ [.lst (s.1.map nV)])) = some (.ok (nV (mValve t s.2).1), PSt (ts.map Tk.d) (mValve t s.2).2.ps (ex ++ [.lst (s.1.map nV)])) :=
    meth1 (k := 0) (var0 rfl) (p_chk "valve") (var_val (i := 3) (v := t.d) rfl) vF
  have gl : ∀ p : PS, (PSt (ts.map Tk.d) p (ex ++ [.lst (s.1.map nV)]))[ex.length + 5]? = some (.lst (s.1.map nV)) := fun p => by rw [P_5]; simp
  have c1 : tBin (gInB false) (eFld ["Token"] "text" (eVar 3)) (eFld ["Parser"] "names" (eVar 0)) [some (.obj 0), x1, some (.obj (ex.length + 5)), some (.val t.d), some (nV (mValve t s.2).1)] (PSt (ts.map Tk.d) (mValve t s.2).2.ps (ex ++ [.lst (s.1.map nV)])) = some (.ok (decide (t.t ∈ s.2.na)), PSt (ts.map Tk.d) (mValve t s.2).2.ps (ex ++ [.lst (s.1.map nV)])) := tbin (by
    have e1 := in_names (toks := ts.map Tk.d) (ex := ex ++ [.lst (s.1.map nV)]) v1.nm (ps_na (mValve t s.2).2) (Sc t.t)
    rw [bin_ok (x := .val (.str (Sc t.t))) (y := .obj 2) (st1 := PSt (ts.map Tk.d) (mValve t s.2).2.ps (ex ++ [.lst (s.1.map nV)])) (st2 := PSt (ts.map Tk.d) (mValve t s.2).2.ps (ex ++ [.lst (s.1.map nV)])) (by simp) (by simp), e1, v6]
    have : decide (Sc t.t ∈ s.2.na.map Sc) = decide (t.t ∈ s.2.na) := decide_eq_decide.mpr mem_Sc
    rw [this])
  have c2 : tBin (gInB false) (eVar 4) (eVar 2) [some (.obj 0), x1, some (.obj (ex.length + 5)), some (.val t.d), some (nV (mValve t s.2).1)] (PSt (ts.map Tk.d) (mValve t s.2).2.ps (ex ++ [.lst (s.1.map nV)])) = some (.ok (decide ((mValve t s.2).1 ∈ s.1)), PSt (ts.map Tk.d) (mValve t s.2).2.ps (ex ++ [.lst (s.1.map nV)])) := tbin (by
    rw [bin_ok (var_val (i := 4) (v := .int (mValve t s.2).1) rfl) (var_obj (i := 2) rfl (gl _))]
    exact in_intsO' _ _ (gl _))
  have c3 : tAndM (tBin (gInB false) (eFld ["Token"] "text" (eVar 3)) (eFld ["Parser"] "names" (eVar 0))) (tBin (gInB false) (eVar 4) (eVar 2)) [some (.obj 0), x1, some (.obj (ex.length + 5)), some (.val t.d), some (nV (mValve t s.2).1)] (PSt (ts.map Tk.d) (mValve t s.2).2.ps (ex ++ [.lst (s.1.map nV)])) = some (.ok (decide (t.t ∈ s.2.na ∧ (mValve t s.2).1 ∈ s.1)), PSt (ts.map Tk.d) (mValve t s.2).2.ps (ex ++ [.lst (s.1.map nV)])) := by
    by_cases hm : t.t ∈ s.2.na
    · rw [tand_t (by rw [c1, decide_eq_true hm]), c2]
      simp [hm]
    · rw [tand_f (by rw [c1, decide_eq_false hm])]
      simp [hm]
  have f3 := maybe_found (s := "rank") (t := t) (a := 3) (q := (mValve t s.2).2) hx2 (by omega) rfl rfl c3
  have e4 : (if decide (t.t ∈ s.2.na ∧ (mValve t s.2).1 ∈ s.1) = true then mFound "rank" t (mValve t s.2).2 else (mValve t s.2).2) = (addR s t).2 := by
    unfold addR
    simp only [decide_eq_true_eq]
  rw [e4] at f3
  have hz : s.1.length < sizeLine := sizes (by omega)
  have ap : eBM "list" gAppend (eVar 2) (aCons (eVar 4) aNil) [some (.obj 0), x1, some (.obj (ex.length + 5)), some (.val t.d), some (nV (mValve t s.2).1)] (PSt (ts.map Tk.d) (addR s t).2.ps (ex ++ [.lst (s.1.map nV)])) = some (.ok (.val .non), PSt (ts.map Tk.d) (addR s t).2.ps (ex ++ [.lst ((addR s t).1.map nV)])) := by
    rw [bm1 (var_obj (i := 2) rfl (gl _)) (chk_list (gl _)) (var_val (i := 4) (v := .int (mValve t s.2).1) rfl), gApp_eq (gl _) (by rw [List.length_map]; exact hz), P_set5]
    simp [addR]
  unfold l1_Parser_parse_rank
  exact (seq_nx (set_nx b1)).trans ((seq_nx f3).trans (expr_nx ap))
theorem ranks_loopP (hx : exOk ex) {x1 : Option S} : ∀ (us : List Tk) (s : List Nat × PQ) (x3 x4 : Option S), QI s.2 → (∀ u ∈ us, TkOk u) → s.2.fa.length + us.length ≤ 4 * s.2.i → 4 * s.2.i ≤ 8000000 → s.1.length + us.length ≤ 2000000 →
    QI (us.foldl addR s).2 ∧ (us.foldl addR s).2.i = s.2.i ∧ (us.foldl addR s).2.r = s.2.r ∧ (us.foldl addR s).2.fa.length ≤ s.2.fa.length + us.length ∧ ∃ x3' x4', forL always (tgName 3) l1_Parser_parse_rank ((us.map Tk.d).map .val) [some (.obj 0), x1, some (.obj (ex.length + 5)), x3, x4] (PSt (ts.map Tk.d) s.2.ps (ex ++ [.lst (s.1.map nV)])) =
      some (.nx, [some (.obj 0), x1, some (.obj (ex.length + 5)), x3', x4'], PSt (ts.map Tk.d) (us.foldl addR s).2.ps (ex ++ [.lst ((us.foldl addR s).1.map nV)]))
  | [], s, x3, x4, h, _, _, _, _ => ⟨h, rfl, rfl, by simp, x3, x4, by rw [List.map_nil, List.map_nil, for_nil trivial]; rfl⟩
  | u :: us, s, x3, x4, h, hu, hf, hz, hl => by
    simp only [List.length_cons] at hf hl
    obtain ⟨a1, a2, a3, a4, a5⟩ := addR_i s u
    have hok := hu u List.mem_cons_self
    obtain ⟨i1, i2, i3, i4, x3', x4', i5⟩ := ranks_loopP (x1 := x1) hx us (addR s u) (some (.val u.d)) (some (nV (mValve u s.2).1)) (addR_qi h (by omega)) (fun v hv => hu v (List.mem_cons_of_mem _ hv)) (by rw [a1]; omega) (by rw [a1]; exact hz) (by omega)
    rw [List.foldl_cons]
    refine ⟨i1, i2.trans a1, i3.trans a4, by simp only [List.length_cons]; omega, x3', x4', ?_⟩
    rw [List.map_cons, List.map_cons, for_cons (sl1 := [some (.obj 0), x1, some (.obj (ex.length + 5)), some (.val u.d), x4]) (st1 := PSt (ts.map Tk.d) s.2.ps (ex ++ [.lst (s.1.map nV)])) trivial rfl (rank_turn hx h hok (by omega) hz (by omega))]
    exact i5
theorem rankP (g : GT ts) (hx : exOk ex) (hi : q.i < ts.length) (h : QI q) :
    (∃ q', mRank ts q = .ok ((), q') ∧ q.i < q'.i ∧ q'.i < ts.length ∧ QI q' ∧ F_Parser_parse_rank [.obj 0] (PSt (ts.map Tk.d) q.ps ex) = some (.ok (.val .non), PSt (ts.map Tk.d) q'.ps ex)) ∨
    (∃ l c p', mRank ts q = .error (l, c) ∧ F_Parser_parse_rank [.obj 0] (PSt (ts.map Tk.d) q.ps ex) = some (.error (synX l c), PSt (ts.map Tk.d) p' ex)) := by
  have hsz := g.sz
  have hfa := h.fa
  unfold mRank F_Parser_parse_rank asC b_Parser_parse_rank
  rw [show mkSl 5 [.obj 0] = [some (.obj 0), none, none, none, none] from rfl, show (PSt (ts.map Tk.d) q.ps ex).length = ex.length + 5 from rfl]
  obtain ⟨kt, k1, _, _, _, k5⟩ := peekP (sl := [some (.obj 0), none, none, none, none]) g hx hi rfl
  rw [k1, seq_nx (set_nx k5)]
  simp only [List.set_cons_succ, List.set_cons_zero]
  rcases eWordP (sl := [some (.obj 0), some (.val kt.d), none, none, none]) g hx hi "rank" (by decide) rfl with ⟨q1, m1, rfl, hi1, f1⟩ | ⟨l, c, m1, f1⟩
  rotate_left
  · exact .inr ⟨l, c, q.ps, by rw [m1]; rfl, by rw [seq_xc (expr_xc f1)]; exact exit_xc0 hx _ _⟩
  rw [m1, seq_nx (expr_nx f1)]
  simp only [pbind]
  have s2 : eArgs gLstO aNil [some (.obj 0), some (.val kt.d), none, none, none] (PSt (ts.map Tk.d) (PQ.ps { q with i := q.i + 1 }) ex) = some (.ok (.obj (ex.length + 5)), PSt (ts.map Tk.d) (PQ.ps { q with i := q.i + 1 }) (ex ++ [.lst ([] : List S)])) := by simp [gLstO]
  rw [seq_nx (set_nx s2)]
  simp only [List.set_cons_succ, List.set_cons_zero]
  have hx2 : exOk (ex ++ [.lst ([] : List S)]) := exOk_app hx []
  rcases namesP (q := { q with i := q.i + 1 }) g hx2 hi1 with ⟨us, q2, m2, rfl, hi2, hu, hne, f2⟩ | ⟨l, c, p', m2, f2⟩
  · left
    rw [m2]
    have b2 := iof_lst (meth0 (sl := [some (.obj 0), some (.val kt.d), some (.obj (ex.length + 5)), none, none]) (ns := ["Parser"]) (m := "take_names") (var0 rfl) (p_chk "take_names") f2)
    have hq2 : QI { q with i := q.i + 1 + us.length + 1 } := by
      have := h.go (1 + us.length + 1)
      rw [show q.i + (1 + us.length + 1) = q.i + 1 + us.length + 1 by omega] at this
      exact this
    have hi2' : q.i + 1 + us.length + 1 < ts.length := hi2
    obtain ⟨i1, i2, i3, i4, x3, x4, i5⟩ := ranks_loopP (ts := ts) (x1 := some (.val kt.d)) hx us ([], { q with i := q.i + 1 + us.length + 1 }) none none hq2 (fun u h => (hu u h).1) (by show q.fa.length + us.length ≤ 4 * (q.i + 1 + us.length + 1); omega) (by
      show 4 * (q.i + 1 + us.length + 1) ≤ 8000000; omega) (by show 0 + us.length ≤ 2000000; omega)
    rw [seq_nx (for_ok b2 i5)]
    obtain ⟨s, hs⟩ : ∃ s, s = us.foldl addR ([], ({ q with i := q.i + 1 + us.length + 1 } : PQ)) := ⟨_, rfl⟩
    rw [← hs] at i1 i2 i3 i4 ⊢
    simp only at i2 i3 i4
    have i4' : s.2.fa.length ≤ q.fa.length + us.length := i4
    have hx3 : exOk (ex ++ [.lst (s.1.map nV)]) := by
      have := exOk_app hx (s.1.map iD)
      rwa [nV_map] at this
    have c1 : tBin (gIsN true) (eFld ["Parser"] "ranks" (eVar 0)) (eC .non) [some (.obj 0), some (.val kt.d), some (.obj (ex.length + 5)), x3, x4] (PSt (ts.map Tk.d) s.2.ps (ex ++ [.lst (s.1.map nV)])) = some (.ok s.2.r.isSome, PSt (ts.map Tk.d) s.2.ps (ex ++ [.lst (s.1.map nV)])) := tbin (by
      have er : eFld ["Parser"] "ranks" (eVar 0) [some (.obj 0), some (.val kt.d), some (.obj (ex.length + 5)), x3, x4] (PSt (ts.map Tk.d) s.2.ps (ex ++ [.lst (s.1.map nV)])) = some (.ok (.val (rD s.2.r)), PSt (ts.map Tk.d) s.2.ps (ex ++ [.lst (s.1.map nV)])) := by simp [PQ.ps]
      rw [bin_ok er rfl]
      cases s.2.r <;> rfl)
    rw [seq_nx (maybe_found hx3 (by omega) rfl rfl c1)]
    have Q2 : QI (if s.2.r.isSome = true then mFound "twice" kt s.2 else s.2) := by
      split
      · exact i1.found _ _ (by rw [i2]; omega)
      · exact i1
    have hqi : (if s.2.r.isSome = true then mFound "twice" kt s.2 else s.2).i = q.i + 1 + us.length + 1 := by
      split
      · exact i2
      · exact i2
    have hre : rankEnd kt s = { (if s.2.r.isSome = true then mFound "twice" kt s.2 else s.2) with r := some s.1 } := rfl
    generalize (if s.2.r.isSome = true then mFound "twice" kt s.2 else s.2) = qd at Q2 hqi hre ⊢
    refine ⟨rankEnd kt s, by rw [hs], by rw [hre]; show q.i < qd.i; omega, by rw [hre]; show qd.i < _; rw [hqi]; exact hi2', by rw [hre]; exact ⟨Q2.nd, Q2.ok, Q2.n8, Q2.fa, Q2.fn, Q2.st, Q2.pa⟩, ?_⟩
    have gl : (PSt (ts.map Tk.d) qd.ps (ex ++ [.lst (s.1.map nV)]))[ex.length + 5]? = some (.lst (s.1.map nV)) := by rw [P_5]; simp
    have fz : eFrz (eVar 2) [some (.obj 0), some (.val kt.d), some (.obj (ex.length + 5)), x3, x4] (PSt (ts.map Tk.d) qd.ps (ex ++ [.lst (s.1.map nV)])) = some (.ok (.val (.lst (s.1.map iD))), PSt (ts.map Tk.d) qd.ps (ex ++ [.frz (.lst (s.1.map iD))])) := by
      unfold eFrz
      simp only [M.bind, var_obj (i := 2) (sl := [some (.obj 0), some (.val kt.d), some (.obj (ex.length + 5)), x3, x4]) rfl gl, toD, gl, datas_nV, Option.map_some, M.pure]
      rw [P_set5]
      simp
    have fs := fldset_ok (ns := ["Parser"]) (f := "ranks") (o := eVar 0) fz (var0 (p := qd.ps) (ex := ex ++ [.frz (.lst (s.1.map iD))]) (toks := ts.map Tk.d) (sl := [some (.obj 0), some (.val kt.d), some (.obj (ex.length + 5)), x3, x4]) rfl) P_0 (by simp) (by simp)
    have e9 : (PSt (ts.map Tk.d) qd.ps (ex ++ [.frz (.lst (s.1.map iD))])).set 0 (.ins "Parser" (putD "ranks" (.val (.lst (s.1.map iD))) [("tokens", .val (.lst (ts.map Tk.d))), ("at", .val (.int qd.ps.i)), ("faults", .obj 1), ("names", .obj 2), ("starts", .obj 3), ("pauses", .obj 4), ("ranks", .val qd.ps.r)])) = PSt (ts.map Tk.d) (PQ.ps { qd with r := some s.1 }) (ex ++ [.frz (.lst (s.1.map iD))]) := rfl
    rw [fs, e9, hre]
    exact exit_nx hx _
  · right
    refine ⟨l, c, p', by rw [m2], ?_⟩
    rw [seq_xc (for_it (iof_x (meth0 (sl := [some (.obj 0), some (.val kt.d), some (.obj (ex.length + 5)), none, none]) (ns := ["Parser"]) (m := "take_names") (var0 rfl) (p_chk "take_names") f2)))]
    exact exit_xc hx _ _
end
end G
namespace G
open PySem L2 Cl
def key4 (f : F4) : T3 := (f.1, f.2.1, f.2.2.1)
def f4P (f : F4) : PyData := .tuple [.int f.1, .int f.2.1, .int f.2.2.1, .str f.2.2.2]
theorem toP_fD (f : F4) : toP (fD f) = some (f4P f) := by simp [fD, toP, toPs, f4P]
theorem enc_fD (f : F4) : encD (fD f) = f4P f := by simp [encD, toP_fD]
theorem toPs_fD (l : List F4) : toPs (l.map fD) = some (l.map f4P) := by
  induction l with
  | nil => simp [toPs]
  | cons a l ih => rw [List.map_cons, toPs, ih, toP_fD]; rfl
theorem lt_f4 (a b : F4) (h : a.2.2.1 ≠ b.2.2.1) : PySem.W.dataLt (f4P a) (f4P b) = decide (lt3 (key4 a) (key4 b)) := by
  unfold f4P
  rw [PySem.W.dataLt_tuple, PySem.W.dataLt_cons (by simp [PySem.W.alike]), PySem.W.dataLt_cons (by simp [PySem.W.alike]), PySem.W.dataLt_cons (by simp [PySem.W.alike])]
  rw [PySem.W.dataLt_int, PySem.W.dataLt_int, PySem.W.dataLt_int]
  simp only [PyData.eqv, beq_iff_eq]
  rw [Bool.eq_iff_iff, decide_eq_true_iff]
  unfold lt3 key4
  have h' : ¬ ((a.2.2.1 : Int) = (b.2.2.1 : Int)) := by omega
  simp only [h', if_false]
  split
  · split
    · rw [decide_eq_true_iff]; omega
    · rw [decide_eq_true_iff]; omega
  · rw [decide_eq_true_iff]; omega
def minF (p : F4) (ps : List F4) : F4 := ps.foldl (fun m q => if lt3 (key4 q) (key4 m) then q else m) p
theorem minF_le : ∀ (ps : List F4) (p : F4), minF p ps ∈ p :: ps ∧ ∀ g ∈ p :: ps, ¬ lt3 (key4 g) (key4 (minF p ps))
  | [], p => ⟨List.mem_cons_self, fun g hg => by rw [List.mem_singleton.mp hg]; unfold minF lt3; simp only [List.foldl_nil]; omega⟩
  | q :: ps, p => by
    obtain ⟨i1, i2⟩ := minF_le ps (if lt3 (key4 q) (key4 p) then q else p)
    have e : minF p (q :: ps) = minF (if lt3 (key4 q) (key4 p) then q else p) ps := rfl
    rw [e]
    have hh := i2 _ List.mem_cons_self
    refine ⟨?_, fun g hg => ?_⟩
    · rcases List.mem_cons.mp i1 with h | h
      · rw [h]
        split
        · exact List.mem_cons_of_mem _ List.mem_cons_self
        · exact List.mem_cons_self
      · exact List.mem_cons_of_mem _ (List.mem_cons_of_mem _ h)
    · rcases List.mem_cons.mp hg with rfl | hg
      · by_cases c : lt3 (key4 q) (key4 g)
        · rw [if_pos c] at hh ⊢
          unfold lt3 at *; omega
        · rw [if_neg c] at hh ⊢; exact hh
      · rcases List.mem_cons.mp hg with rfl | hg
        · by_cases c : lt3 (key4 g) (key4 p)
          · rw [if_pos c] at hh ⊢; exact hh
          · rw [if_neg c] at hh ⊢
            unfold lt3 at *; omega
        · exact i2 g (List.mem_cons_of_mem _ hg)
theorem minD_f4 : ∀ (ps : List F4) (p : F4), ((p :: ps).map (·.2.2.1)).Nodup → PySem.W.minD (f4P p) (ps.map f4P) = f4P (minF p ps)
  | [], p, _ => rfl
  | q :: ps, p, nd => by
    have e : PySem.W.minD (f4P p) ((q :: ps).map f4P) = PySem.W.minD (if PySem.W.dataLt (f4P q) (f4P p) then f4P q else f4P p) (ps.map f4P) := rfl
    have e2 : minF p (q :: ps) = minF (if lt3 (key4 q) (key4 p) then q else p) ps := rfl
    rw [List.map_cons, List.map_cons, List.nodup_cons, List.nodup_cons] at nd
    obtain ⟨n1, n2, n3⟩ := nd
    have hne : q.2.2.1 ≠ p.2.2.1 := fun z => n1 (by rw [← z]; exact List.mem_cons_self)
    rw [e, e2, lt_f4 q p hne]
    by_cases c : lt3 (key4 q) (key4 p)
    · rw [if_pos c, decide_eq_true c, if_pos rfl]
      exact minD_f4 ps q (List.nodup_cons.mpr ⟨n2, n3⟩)
    · rw [if_neg c, decide_eq_false c, if_neg Bool.false_ne_true]
      exact minD_f4 ps p (List.nodup_cons.mpr ⟨fun z => n1 (List.mem_cons_of_mem _ z), n3⟩)
theorem filter_one {f : F4} (p : F4 → Bool) : ∀ {l : List F4}, (l.map (·.2.2.1)).Nodup → f ∈ l → (∀ g ∈ l, p g = decide (g.2.2.1 = f.2.2.1)) → l.filter p = [f]
  | [], _, h, _ => by cases h
  | g :: l, nd, h, hp => by
    rw [List.map_cons, List.nodup_cons] at nd
    obtain ⟨n1, n2⟩ := nd
    have hg := hp g List.mem_cons_self
    by_cases c : g.2.2.1 = f.2.2.1
    · rw [List.filter_cons_of_pos (by rw [hg, decide_eq_true c])]
      have hf : g = f := by
        rcases List.mem_cons.mp h with rfl | h
        · rfl
        · exact absurd (by rw [c]; exact List.mem_map_of_mem h) n1
      rw [hf]
      congr 1
      rw [List.filter_eq_nil_iff]
      intro x hx
      rw [hp x (List.mem_cons_of_mem _ hx), decide_eq_true_iff]
      intro z
      exact n1 (by rw [c, ← z]; exact List.mem_map_of_mem hx)
    · rw [List.filter_cons_of_neg (by rw [hg, decide_eq_true_iff]; exact c)]
      refine filter_one p n2 ?_ fun x hx => hp x (List.mem_cons_of_mem _ hx)
      rcases List.mem_cons.mp h with rfl | h
      · exact absurd rfl c
      · exact h
theorem eqv_f4 {a b : F4} (h : a.2.2.1 = b.2.2.1 → a = b) : PyData.eqv (f4P a) (f4P b) = decide (a.2.2.1 = b.2.2.1) := by
  unfold f4P
  by_cases c : a.2.2.1 = b.2.2.1
  · rw [h c, decide_eq_true rfl]
    exact PySem.W.eqv_refl_alike _ (by simp [PySem.W.alike, PySem.W.alikeAll])
  · rw [decide_eq_false c]
    have : ¬ ((a.2.2.1 : Int) = (b.2.2.1 : Int)) := by omega
    simp [PyData.eqv, PyData.eqvAll, this]
theorem inj_of_nodup {l : List F4} (nd : (l.map (·.2.2.1)).Nodup) {a b : F4} (ha : a ∈ l) (hb : b ∈ l) (h : a.2.2.1 = b.2.2.1) : a = b := by
  induction l with
  | nil => cases ha
  | cons g l ih =>
    rw [List.map_cons, List.nodup_cons] at nd
    rcases List.mem_cons.mp ha with h1 | h1
    · rcases List.mem_cons.mp hb with h2 | h2
      · rw [h1, h2]
      · exact absurd (by rw [← h1, h]; exact List.mem_map_of_mem h2) nd.1
    · rcases List.mem_cons.mp hb with h2 | h2
      · exact absurd (by rw [← h2, ← h]; exact List.mem_map_of_mem h1) nd.1
      · exact ih nd.2 h1 h2
theorem gMin_eq {x : S} {st : List O} {p : F4} {ps : List F4} (nd : ((p :: ps).map (·.2.2.1)).Nodup) (h : (lstOf x st).bind datas = some ((p :: ps).map fD)) :
    gMinD x st = some (.ok (.val (fD (minF p ps))), st) := by
  unfold gMinD
  rw [h]
  dsimp only
  rw [toPs_fD, List.map_cons]
  dsimp only
  have al : alikesB (f4P p :: ps.map f4P) = true := by
    rw [← List.map_cons (f := f4P)]
    unfold alikesB
    rw [List.all_eq_true]
    intro a ha
    rw [List.all_eq_true]
    intro b hb
    obtain ⟨a, _, rfl⟩ := List.mem_map.mp ha
    obtain ⟨b, _, rfl⟩ := List.mem_map.mp hb
    simp [f4P, PySem.W.alike, PySem.W.alikeAll]
  have so : (f4P p :: ps.map f4P).all someP = true := by
    rw [← List.map_cons (f := f4P), List.all_eq_true]
    intro a ha
    obtain ⟨a, _, rfl⟩ := List.mem_map.mp ha
    rfl
  have dp : PyData.depthAll (f4P p :: ps.map f4P) ≤ 20 := by
    rw [← List.map_cons (f := f4P)]
    generalize p :: ps = l
    induction l with
    | nil => simp [PyData.depthAll]
    | cons a l ih =>
      rw [List.map_cons, PyData.depthAll]
      have : (f4P a).depth ≤ 20 := by simp [f4P, PyData.depth, PyData.depthAll]
      omega
  rw [if_pos ⟨al, so, dp⟩, minD_f4 ps p nd]
  have hm := (minF_le ps p).1
  have hf : ((p :: ps).map fD).filter (fun d => PyData.eqv (encD d) (f4P (minF p ps))) = [fD (minF p ps)] := by
    rw [List.filter_map]
    have := filter_one (f := minF p ps) ((fun d => PyData.eqv (encD d) (f4P (minF p ps))) ∘ fD) nd hm (fun g hg => by
      have : ((fun d => PyData.eqv (encD d) (f4P (minF p ps))) ∘ fD) g = PyData.eqv (f4P g) (f4P (minF p ps)) := by rw [← enc_fD g]; rfl
      rw [this]
      exact eqv_f4 (inj_of_nodup nd hg hm))
    rw [this]; rfl
  rw [hf]
end G
namespace G
open PySem L2 Cl
def mBody (ts : List Tk) (len : Nat) (q : PQ) : PR Unit := match ts[q.i]? with
  | none => .error (0, 0)
  | some t => if t.t = cds "start" then mStart ts len q else if t.t = cds "pause" then mPause ts len q else if t.t = cds "rank" then mRank ts q else .error (t.l, t.c)
def mLoop (ts : List Tk) (len : Nat) : Nat → PQ → PR Unit
  | 0, _ => .error (0, 0)
  | n + 1, q => match ts[q.i]? with
    | none => .error (0, 0)
    | some t => if t.k = "end" then .ok ((), q) else pbind (mBody ts len q) fun _ q => mLoop ts len n q
def q0 : PQ := ⟨0, [], [], [], [], none⟩
def mAll (ts : List Tk) : PR (Nat × Nat) := pbind (mNumber ts "round" 60 q0) fun len q => pbind (mNumber ts "open" 9 q) fun most q => pbind (mValves ts q) fun _ q => pbind (mLoop ts len ts.length q) fun _ q => .ok ((len, most), q)
section
variable {ts : List Tk} {q : PQ} {ex : List O} {t : Tk} {sl : Sl}
theorem mc_eq_t {x : Str} {s : MS} {m : S → MS} {y : Str} {st : List O} (hx : PyData.strOk x = true) (hy : PyData.strOk y = true) (h : y = x) : mcVal gEq (eC (.str x)) s m (.val (.str y)) sl st = s sl st := by
  have e := gEq_str st hy hx
  rw [decide_eq_true h] at e
  simp [e]
theorem mc_eq_f {x : Str} {s : MS} {m : S → MS} {y : Str} {st : List O} (hx : PyData.strOk x = true) (hy : PyData.strOk y = true) (h : y ≠ x) : mcVal gEq (eC (.str x)) s m (.val (.str y)) sl st = m (.val (.str y)) sl st := by
  have e := gEq_str st hy hx
  rw [decide_eq_false h] at e
  simp [e]
theorem match_ok {e : ME} {f : MC} {x : S} {st st' : List O} (h : e sl st = some (.ok x, st')) : sMatch e f sl st = f x sl st' := by simp [h]
theorem while_x {c : MT} {b : MS} {sl sl2 : Sl} {st st1 st2 : List O} {x : XD} (h1 : c sl st = some (.ok true, st1)) (h2 : b sl st1 = some (.xc x, sl2, st2)) : sWhile c b sl st = some (.xc x, sl2, st2) := by
  rw [while_eq, h1]; simp only [h2]
theorem txt_of {k : Str} (g : GT ts) (hi : q.i < ts.length) (h0 : sl[0]? = some (some (.obj 0))) (ht : ts[q.i]? = some t) : eFld ["Token"] "text" (eMeth ["Parser"] "peek" (gCallO 1 F_Parser_peek []) (eVar 0) aNil) sl (PSt (ts.map Tk.d) q.ps []) = some (.ok (.val (.str (Sc t.t))), PSt (ts.map Tk.d) q.ps []) ∧
    eFld ["Token"] "kind" (eMeth ["Parser"] "peek" (gCallO 1 F_Parser_peek []) (eVar 0) aNil) sl (PSt (ts.map Tk.d) q.ps []) = some (.ok (.val (.str t.k)), PSt (ts.map Tk.d) q.ps []) := by
  obtain ⟨t', h1, _, _, _, h5⟩ := peekP (sl := sl) g exOk_nil hi h0
  cases ht.symm.trans h1
  constructor
  · simp only [eFld, M.bind, h5]; simp
  · simp only [eFld, M.bind, h5]; simp
theorem cds_ne {w : String} {t : Tk} (h : ¬ t.t = cds w) : Sc t.t ≠ Str.ofString w := fun z => h (Sc_inj (z.trans (Sc_of w)))
theorem bodyP (g : GT ts) (hi : q.i < ts.length) (h : QI q) (ht : ts[q.i]? = some t) (hok : okC t.t) (len : Nat) (s : Sl) :
    (∃ q', mBody ts len q = .ok ((), q') ∧ q.i < q'.i ∧ q'.i < ts.length ∧ QI q' ∧ l1_Parser_parse_planM (some (.obj 0) :: some (nV len) :: s) (PSt (ts.map Tk.d) q.ps []) = some (.nx, some (.obj 0) :: some (nV len) :: s, PSt (ts.map Tk.d) q'.ps [])) ∨
    (∃ l c p', mBody ts len q = .error (l, c) ∧ l1_Parser_parse_planM (some (.obj 0) :: some (nV len) :: s) (PSt (ts.map Tk.d) q.ps []) = some (.xc (synX l c), some (.obj 0) :: some (nV len) :: s, PSt (ts.map Tk.d) p' [])) := by
  have e1 := (txt_of (k := "") (sl := some (.obj 0) :: some (nV len) :: s) g hi rfl ht).1
  have v1 : ∀ p : PS, eVar 1 (some (.obj 0) :: some (nV len) :: s) (PSt (ts.map Tk.d) p []) = some (.ok (nV len), PSt (ts.map Tk.d) p []) := fun p => by simp
  have ty := ok_Sc hok
  have m0 : mBody ts len q = if t.t = cds "start" then mStart ts len q else if t.t = cds "pause" then mPause ts len q else if t.t = cds "rank" then mRank ts q else .error (t.l, t.c) := by unfold mBody; rw [ht]
  unfold l1_Parser_parse_planM
  rw [match_ok e1, m0]
  by_cases c1 : t.t = cds "start"
  · rw [mc_eq_t (strOk_lit "start") ty (by rw [c1]; exact (Sc_of _).symm), if_pos c1]
    rcases startP (ex := []) g exOk_nil hi h len with ⟨q', a1, a2, a3, a4, a5⟩ | ⟨l, c, p', a1, a2⟩
    · exact .inl ⟨q', a1, by omega, a3, a4, expr_nx (meth1 (k := 0) (var0 rfl) (p_chk "parse_start") (v1 _) a5)⟩
    · exact .inr ⟨l, c, p', a1, expr_xc (meth1x (var0 rfl) (p_chk "parse_start") (v1 _) a2)⟩
  rw [mc_eq_f (strOk_lit "start") ty (cds_ne c1), if_neg c1]
  by_cases c2 : t.t = cds "pause"
  · rw [mc_eq_t (strOk_lit "pause") ty (by rw [c2]; exact (Sc_of _).symm), if_pos c2]
    rcases pauseP (ex := []) g exOk_nil hi h len with ⟨q', a1, a2, a3, a4, a5⟩ | ⟨l, c, p', a1, a2⟩
    · exact .inl ⟨q', a1, by omega, a3, a4, expr_nx (meth1 (k := 0) (var0 rfl) (p_chk "parse_pause") (v1 _) a5)⟩
    · exact .inr ⟨l, c, p', a1, expr_xc (meth1x (var0 rfl) (p_chk "parse_pause") (v1 _) a2)⟩
  rw [mc_eq_f (strOk_lit "pause") ty (cds_ne c2), if_neg c2]
  by_cases c3 : t.t = cds "rank"
  · rw [mc_eq_t (strOk_lit "rank") ty (by rw [c3]; exact (Sc_of _).symm), if_pos c3]
    rcases rankP (ex := []) g exOk_nil hi h with ⟨q', a1, a2, a3, a4, a5⟩ | ⟨l, c, p', a1, a2⟩
    · exact .inl ⟨q', a1, by omega, a3, a4, expr_nx (meth0 (var0 rfl) (p_chk "parse_rank") a5)⟩
    · exact .inr ⟨l, c, p', a1, expr_xc (meth0 (var0 rfl) (p_chk "parse_rank") a2)⟩
  rw [mc_eq_f (strOk_lit "rank") ty (cds_ne c3), if_neg c3]
  refine .inr ⟨t.l, t.c, q.ps, rfl, ?_⟩
  show sExpr (eMeth ["Parser"] "fail" (gCallO 1 F_Parser_fail []) (eVar 0) aNil) (some (.obj 0) :: some (nV len) :: s) (PSt (ts.map Tk.d) q.ps []) = _
  exact expr_xc (meth0 (var0 rfl) (p_chk "fail") (fail_p exOk_nil (toks_get ht)))
theorem loopP (g : GT ts) (len : Nat) (s : Sl) : ∀ (n : Nat) (q : PQ), ts.length - q.i ≤ n → q.i < ts.length → QI q →
    (∃ q', mLoop ts len n q = .ok ((), q') ∧ q'.i < ts.length ∧ QI q' ∧ sWhile c1_Parser_parse_planM l1_Parser_parse_planM (some (.obj 0) :: some (nV len) :: s) (PSt (ts.map Tk.d) q.ps []) = some (.nx, some (.obj 0) :: some (nV len) :: s, PSt (ts.map Tk.d) q'.ps [])) ∨
    (∃ l c p', mLoop ts len n q = .error (l, c) ∧ sWhile c1_Parser_parse_planM l1_Parser_parse_planM (some (.obj 0) :: some (nV len) :: s) (PSt (ts.map Tk.d) q.ps []) = some (.xc (synX l c), some (.obj 0) :: some (nV len) :: s, PSt (ts.map Tk.d) p' []))
  | 0, q, hn, hi, _ => by omega
  | n + 1, q, hn, hi, h => by
    obtain ⟨t, h1, h2, h3, h4⟩ := g.at hi
    have e1 := (txt_of (k := "") (sl := some (.obj 0) :: some (nV len) :: s) g hi rfl h1).2
    have c1 : c1_Parser_parse_planM (some (.obj 0) :: some (nV len) :: s) (PSt (ts.map Tk.d) q.ps []) = some (.ok (!decide (t.k = "end")), PSt (ts.map Tk.d) q.ps []) := tbin (by
      rw [bin_ok e1 (y := .val (.str "end")) (st2 := PSt (ts.map Tk.d) q.ps []) rfl, gNe_str _ h3 (strOk_lit "end")])
    unfold mLoop
    rw [h1]
    by_cases ce : t.k = "end"
    · rw [decide_eq_true ce] at c1
      exact .inl ⟨q, by simp only [ce, if_true], hi, h, while_stop c1⟩
    · rw [decide_eq_false ce] at c1
      simp only [ce, if_false]
      rcases bodyP g hi h h1 h2 len s with ⟨q', a1, a2, a3, a4, a5⟩ | ⟨l, c, p', a1, a2⟩
      · rw [a1, while_go c1 a5]
        exact loopP g len s n q' (by omega) a3 a4
      · rw [a1]
        exact .inr ⟨l, c, p', rfl, while_x c1 a2⟩
end
end G
namespace G
open PySem L2 Cl
structure GI (len : Nat) (q : PQ) : Prop where
  nw : ∀ w ∈ q.na, NmW w
  nd : q.na.Nodup
  n8 : q.na.length ≤ 8
  n1 : q.na ≠ []
  rl : ∀ js, q.r = some js → js.length ≤ 1000000
  st : q.fa = [] → ∀ s ∈ q.sts, s.1 < len ∧ s.2.1 < q.na.length ∧ 1 ≤ s.2.2 ∧ s.2.2 ≤ 30
  s20 : q.fa = [] → q.sts.length ≤ 20
  pa : q.fa = [] → ∀ p ∈ q.pa, p.1 ≤ p.2 ∧ p.2 < len
  rk : q.fa = [] → ∀ js, q.r = some js → js.Nodup ∧ ∀ j ∈ js, j < q.na.length
  fo : ∀ f ∈ q.fa, PyData.strOk f.2.2.2 = true
section
variable {ts : List Tk} {q q' : PQ} {t : Tk} {len : Nat}
theorem pbind_ok {α β : Type} {m : PR α} {k : α → PQ → PR β} {x : β × PQ} (h : pbind m k = .ok x) : ∃ a q1, m = .ok (a, q1) ∧ k a q1 = .ok x := by
  unfold pbind at h
  match m, h with
  | .ok (a, q1), h => exact ⟨a, q1, rfl, h⟩
theorem mWord_ok {w : List Nat} {u : Unit} (h : mWord ts w q = .ok (u, q')) : q' = { q with i := q.i + 1 } := by
  unfold mWord at h
  split at h
  · cases h
  · split at h
    · cases h; rfl
    · cases h
theorem mTake_ok {k : Str} (h : mTake ts k q = .ok (t, q')) : t.k = k ∧ ts[q.i]? = some t ∧ q' = { q with i := q.i + 1 } := by
  unfold mTake at h
  split at h
  · cases h
  · rename_i e
    split at h
    · rename_i hk
      cases h; exact ⟨hk, e, rfl⟩
    · cases h
theorem tk_at (g : GT ts) {i : Nat} (h : ts[i]? = some t) (hne : t.k ≠ "end") : TkOk t := by
  obtain ⟨t', h1, _, _, h4⟩ := g.at (List.getElem?_eq_some_iff.mp h).1
  cases h.symm.trans h1
  rcases h4 with h4 | h4
  · exact absurd h4.1 hne
  · exact h4.1
theorem tk_nm (h : TkOk t) (hk : t.k = "name") : NmW t.t := by
  have e : (kw t).1 = "name" ∧ (kw t).2 = t.t := ⟨hk, rfl⟩
  rw [← e.2]
  have h : WdOk (kw t) := h
  generalize kw t = x at h e
  obtain ⟨e, -⟩ := e
  cases h with
  | name h => exact h
  | key _ => exact absurd e (by simp only; decide +kernel)
  | num _ => exact absurd e (by simp only; decide +kernel)
  | sign => exact absurd e (by decide +kernel)
theorem mNames_ok (g : GT ts) {us : List Tk} (h : mNames ts q = .ok (us, q')) : (∀ u ∈ us, NmW u.t) ∧ us ≠ [] ∧ us.length ≤ ts.length ∧ q' = { q with i := q'.i } := by
  unfold mNames at h
  obtain ⟨t, q1, h1, h⟩ := pbind_ok h
  obtain ⟨_, q2, h2, h⟩ := pbind_ok h
  cases h
  obtain ⟨a1, a2, rfl⟩ := mTake_ok h1
  have e := mWord_ok h2
  have nm := tk_nm (tk_at g a2 (by rw [a1]; exact ne_end "name")) a1
  refine ⟨fun u hu => ?_, by simp, ?_, by rw [e]⟩
  · rcases List.mem_cons.mp hu with rfl | hu
    · exact nm
    · have hk := List.all_eq_true.mp (List.all_takeWhile (p := isNm) (l := ts.drop (q.i + 1))) u hu
      have hm := List.mem_of_mem_drop ((List.takeWhile_prefix _).subset hu)
      obtain ⟨i, hi⟩ := List.mem_iff_getElem?.mp hm
      have hk' : u.k = "name" := by unfold isNm at hk; simpa using hk
      exact tk_nm (tk_at g hi (by rw [hk']; exact ne_end "name")) hk'
  · have := (List.takeWhile_prefix isNm (l := ts.drop (q.i + 1))).length_le
    simp only [List.length_cons]
    rw [List.length_drop] at this
    have hlt := (List.getElem?_eq_some_iff.mp a2).1
    omega
theorem found_ne (s : Str) (t : Tk) (q : PQ) : (mFound s t q).fa ≠ [] := by simp [mFound]
/-- the fields other than faults and place -/
def sameF (q q' : PQ) : Prop := q'.na = q.na ∧ q'.sts = q.sts ∧ q'.pa = q.pa ∧ q'.r = q.r ∧ (q'.fa = [] → q.fa = []) ∧ ((∀ f ∈ q.fa, PyData.strOk f.2.2.2 = true) → ∀ f ∈ q'.fa, PyData.strOk f.2.2.2 = true)
theorem sameF.refl (q : PQ) (i : Nat) : sameF q { q with i := i } := ⟨rfl, rfl, rfl, rfl, id, id⟩
theorem found_fo {q : PQ} {s : Str} {t : Tk} (hs : PyData.strOk s = true) (h : ∀ f ∈ q.fa, PyData.strOk f.2.2.2 = true) : ∀ f ∈ (mFound s t q).fa, PyData.strOk f.2.2.2 = true := fun f hf => by
  rcases List.mem_append.mp hf with hf | hf
  · exact h f hf
  · rw [List.mem_singleton.mp hf]; exact hs
theorem sameF.found (s : Str) (t : Tk) (q : PQ) (hs : PyData.strOk s = true := by exact strOk_lit _) : sameF q (mFound s t q) := ⟨rfl, rfl, rfl, rfl, (fun h => absurd h (found_ne s t q)), found_fo hs⟩
theorem sameF.trans {a b c : PQ} (h : sameF a b) (h2 : sameF b c) : sameF a c := ⟨h2.1.trans h.1, h2.2.1.trans h.2.1, h2.2.2.1.trans h.2.2.1, h2.2.2.2.1.trans h.2.2.2.1, fun z => h.2.2.2.2.1 (h2.2.2.2.2.1 z), fun z => h2.2.2.2.2.2 (h.2.2.2.2.2 z)⟩
theorem sameF.iff {s : Str} {t : Tk} (c : Prop) [Decidable c] (q : PQ) (hs : PyData.strOk s = true := by exact strOk_lit _) : sameF q (if c then mFound s t q else q) := by
  split
  · exact .found _ _ _ hs
  · exact .refl q q.i
theorem GI.same (h : GI len q) (e : sameF q q') : GI len q' := by
  obtain ⟨e1, e2, e3, e4, e5, e6⟩ := e
  constructor
  · rw [e1]; exact h.nw
  · rw [e1]; exact h.nd
  · rw [e1]; exact h.n8
  · rw [e1]; exact h.n1
  · rw [e4]; exact h.rl
  · rw [e2, e1]; exact fun z => h.st (e5 z)
  · rw [e2]; exact fun z => h.s20 (e5 z)
  · rw [e3]; exact fun z => h.pa (e5 z)
  · rw [e4, e1]; exact fun z => h.rk (e5 z)
  · exact e6 h.fo
theorem mValve_same (t : Tk) (q : PQ) : sameF q (mValve t q).2 ∧ ((mValve t q).2.fa = [] → (mValve t q).1 < q.na.length) := by
  unfold mValve
  split
  · rename_i h
    exact ⟨.refl q q.i, fun _ => List.idxOf_lt_length_iff.mpr h⟩
  · exact ⟨.found _ _ _, fun z => absurd z (found_ne _ _ _)⟩
theorem GI.start (g : GT ts) (h : GI len q) {u : Unit} (hs : mStart ts len q = .ok (u, q')) : GI len q' ∧ (q'.fa = [] → q.fa = []) := by
  unfold mStart at hs
  split at hs
  · cases hs
  rename_i kt hk
  obtain ⟨_, q1, h1, hs⟩ := pbind_ok hs
  obtain ⟨tn, q2, h2, hs⟩ := pbind_ok hs
  obtain ⟨tk, q3, h3, hs⟩ := pbind_ok hs
  obtain ⟨_, q4, h4, hs⟩ := pbind_ok hs
  obtain ⟨wt, q5, h5, hs⟩ := pbind_ok hs
  obtain ⟨_, q6, h6, hs⟩ := pbind_ok hs
  have e1 := mWord_ok h1
  obtain ⟨_, _, e2⟩ := mTake_ok h2
  obtain ⟨_, _, e3⟩ := mTake_ok h3
  have e4 := mWord_ok h4
  obtain ⟨_, _, e5⟩ := mTake_ok h5
  have e6 := mWord_ok h6
  have s2 : sameF q q2 := by rw [e2, e1]; exact .refl q _
  obtain ⟨v1, v2⟩ := mValve_same tn q2
  have s6 : sameF (mValve tn q2).2 q6 := by rw [e6, e5, e4, e3]; exact .refl _ _
  simp only [Except.ok.injEq, Prod.mk.injEq, true_and] at hs
  have s7 := sameF.iff (s := "tick") (t := tk) (decide (len ≤ tval tk.t) = true) q6
  have f7 : (if decide (len ≤ tval tk.t) = true then mFound "tick" tk q6 else q6).fa = [] → tval tk.t < len := by
    split
    · exact fun z => absurd z (found_ne _ _ _)
    · rename_i c; intro _; simpa using c
  generalize (if decide (len ≤ tval tk.t) = true then mFound "tick" tk q6 else q6) = q7 at hs s7 f7
  have s8 := sameF.iff (s := "length") (t := wt) ((!(decide (1 ≤ tval wt.t) && decide (tval wt.t ≤ 30))) = true) q7
  have f8 : (if (!(decide (1 ≤ tval wt.t) && decide (tval wt.t ≤ 30))) = true then mFound "length" wt q7 else q7).fa = [] → 1 ≤ tval wt.t ∧ tval wt.t ≤ 30 := by
    split
    · exact fun z => absurd z (found_ne _ _ _)
    · rename_i c; intro _; simp at c; omega
  generalize (if (!(decide (1 ≤ tval wt.t) && decide (tval wt.t ≤ 30))) = true then mFound "length" wt q7 else q7) = q8 at hs s8 f8
  have s9 := sameF.iff (s := "starts") (t := kt) (decide (q8.sts.length = 20) = true) q8
  have f9 : (if decide (q8.sts.length = 20) = true then mFound "starts" kt q8 else q8).fa = [] → q8.sts.length ≠ 20 := by
    split
    · exact fun z => absurd z (found_ne _ _ _)
    · rename_i c; intro _; simpa using c
  generalize (if decide (q8.sts.length = 20) = true then mFound "starts" kt q8 else q8) = q9 at hs s9 f9
  have S : sameF q q9 := s2.trans (v1.trans (s6.trans (s7.trans (s8.trans s9))))
  have G9 := h.same S
  rw [← hs]
  refine ⟨⟨G9.nw, G9.nd, G9.n8, G9.n1, G9.rl, fun z s hm => ?_, fun z => ?_, G9.pa, G9.rk, G9.fo⟩, S.2.2.2.2.1⟩
  · rcases List.mem_append.mp hm with hm | hm
    · exact G9.st z s hm
    · rw [List.mem_singleton.mp hm]
      have z8 := s9.2.2.2.2.1 z
      have z7 := s8.2.2.2.2.1 z8
      have z6 := s7.2.2.2.2.1 z7
      have zv := s6.2.2.2.2.1 z6
      have hv := v2 zv
      have e : q9.na = q2.na := by rw [S.1, ← s2.1]
      refine ⟨f7 z7, ?_, f8 z8⟩
      show (mValve tn q2).1 < q9.na.length
      rw [e]; exact hv
  · have a := G9.s20 z
    have b := f9 z
    rw [← s9.2.1] at b
    show (q9.sts ++ [_]).length ≤ 20
    rw [List.length_append, List.length_singleton]
    omega
theorem GI.pause (g : GT ts) (h : GI len q) {u : Unit} (hs : mPause ts len q = .ok (u, q')) : GI len q' ∧ (q'.fa = [] → q.fa = []) := by
  unfold mPause at hs
  obtain ⟨_, q1, h1, hs⟩ := pbind_ok hs
  obtain ⟨a, q2, h2, hs⟩ := pbind_ok hs
  obtain ⟨b, q3, h3, hs⟩ := pbind_ok hs
  obtain ⟨_, q4, h4, hs⟩ := pbind_ok hs
  have e1 := mWord_ok h1
  obtain ⟨_, _, e2⟩ := mTake_ok h2
  obtain ⟨_, _, e3⟩ := mTake_ok h3
  have e4 := mWord_ok h4
  have s4 : sameF q q4 := by rw [e4, e3, e2, e1]; exact .refl q _
  have hs2 : q' = { (if len ≤ tval b.t then mFound "pause" b q4 else if tval b.t < tval a.t then mFound "pause" a q4 else q4) with pa := (if len ≤ tval b.t then mFound "pause" b q4 else if tval b.t < tval a.t then mFound "pause" a q4 else q4).pa ++ [(tval a.t, tval b.t)] } := by
    simp only [Except.ok.injEq, Prod.mk.injEq, true_and] at hs
    exact hs.symm
  have s5 : sameF q4 (if len ≤ tval b.t then mFound "pause" b q4 else if tval b.t < tval a.t then mFound "pause" a q4 else q4) := by
    split
    · exact .found _ _ _
    · exact .iff _ _
  have f5 : (if len ≤ tval b.t then mFound "pause" b q4 else if tval b.t < tval a.t then mFound "pause" a q4 else q4).fa = [] → tval a.t ≤ tval b.t ∧ tval b.t < len := by
    split
    · exact fun z => absurd z (found_ne _ _ _)
    · split
      · exact fun z => absurd z (found_ne _ _ _)
      · intro _; omega
  generalize (if len ≤ tval b.t then mFound "pause" b q4 else if tval b.t < tval a.t then mFound "pause" a q4 else q4) = q5 at hs2 s5 f5
  have G5 := h.same (s4.trans s5)
  rw [hs2]
  refine ⟨⟨G5.nw, G5.nd, G5.n8, G5.n1, G5.rl, G5.st, G5.s20, fun z p hm => ?_, G5.rk, G5.fo⟩, (s4.trans s5).2.2.2.2.1⟩
  rcases List.mem_append.mp hm with hm | hm
  · exact G5.pa z p hm
  · rw [List.mem_singleton.mp hm]; exact f5 z
theorem addR_inv : ∀ (us : List Tk) (s : List Nat × PQ), sameF s.2 (us.foldl addR s).2 ∧ (us.foldl addR s).1.length = s.1.length + us.length ∧
    ((us.foldl addR s).2.fa = [] → s.1.Nodup → (∀ j ∈ s.1, j < s.2.na.length) → (us.foldl addR s).1.Nodup ∧ ∀ j ∈ (us.foldl addR s).1, j < s.2.na.length)
  | [], s => ⟨.refl s.2 s.2.i, by simp, fun _ a b => ⟨a, b⟩⟩
  | t :: us, s => by
    obtain ⟨i1, i2, i3⟩ := addR_inv us (addR s t)
    obtain ⟨v1, v2⟩ := mValve_same t s.2
    have e1 : (addR s t).1 = s.1 ++ [(mValve t s.2).1] := rfl
    have e2 : (addR s t).2 = if t.t ∈ s.2.na ∧ (mValve t s.2).1 ∈ s.1 then mFound "rank" t (mValve t s.2).2 else (mValve t s.2).2 := rfl
    have s1 : sameF s.2 (addR s t).2 := by rw [e2]; exact v1.trans (.iff _ _)
    rw [List.foldl_cons]
    refine ⟨s1.trans i1, by rw [i2, e1]; simp; omega, fun z nd hb => ?_⟩
    have z1 := i1.2.2.2.2.1 z
    have hna : (addR s t).2.na = s.2.na := s1.1
    have key : (mValve t s.2).1 ∉ s.1 ∧ (mValve t s.2).1 < s.2.na.length := by
      rw [e2] at z1
      split at z1
      · exact absurd z1 (found_ne _ _ _)
      · rename_i c
        refine ⟨fun hm => c ⟨?_, hm⟩, v2 z1⟩
        unfold mValve at z1
        split at z1
        · assumption
        · exact absurd z1 (found_ne _ _ _)
    have := i3 z (by rw [e1]; exact List.nodup_append.mpr ⟨nd, by simp, by
        intro a ha b hb2
        rw [List.mem_singleton.mp hb2]
        intro z2; rw [z2] at ha; exact key.1 ha⟩) (by
      rw [e1, hna]
      intro j hj
      rcases List.mem_append.mp hj with hj | hj
      · exact hb j hj
      · rw [List.mem_singleton.mp hj]; exact key.2)
    rw [hna] at this
    exact this
theorem GI.rank (g : GT ts) (h : GI len q) {u : Unit} (hs : mRank ts q = .ok (u, q')) : GI len q' ∧ (q'.fa = [] → q.fa = []) := by
  unfold mRank at hs
  split at hs
  · cases hs
  rename_i kt hk
  obtain ⟨_, q1, h1, hs⟩ := pbind_ok hs
  obtain ⟨us, q2, h2, hs⟩ := pbind_ok hs
  have e1 := mWord_ok h1
  obtain ⟨n1, n2, n3, n4⟩ := mNames_ok g h2
  have s2 : sameF q q2 := by rw [n4, e1]; exact .refl q _
  obtain ⟨i1, i2, i3⟩ := addR_inv us ([], q2)
  have hs2 : q' = rankEnd kt (us.foldl addR ([], q2)) := by
    simp only [Except.ok.injEq, Prod.mk.injEq, true_and] at hs
    exact hs.symm
  generalize us.foldl addR ([], q2) = s at i1 i2 i3 hs2
  have s3 := sameF.iff (s := "twice") (t := kt) (s.2.r.isSome = true) s.2
  unfold rankEnd at hs2
  generalize (if s.2.r.isSome = true then mFound "twice" kt s.2 else s.2) = q3 at hs2 s3
  have S : sameF q q3 := s2.trans (i1.trans s3)
  have G3 := h.same S
  rw [hs2]
  refine ⟨⟨G3.nw, G3.nd, G3.n8, G3.n1, fun js hj => ?_, G3.st, G3.s20, G3.pa, fun z js hj => ?_, G3.fo⟩, S.2.2.2.2.1⟩
  · cases hj
    rw [i2]
    have := g.sz
    show 0 + us.length ≤ _; omega
  · cases hj
    obtain ⟨a, b⟩ := i3 (s3.2.2.2.2.1 z) List.nodup_nil (fun _ hj => by cases hj)
    refine ⟨a, fun j hj => ?_⟩
    have := b j hj
    show j < q3.na.length
    rw [S.1, ← s2.1]; exact this
theorem GI.loop (g : GT ts) : ∀ (n : Nat) {q q' : PQ} {u : Unit}, GI len q → mLoop ts len n q = .ok (u, q') → GI len q' ∧ (q'.fa = [] → q.fa = [])
  | 0, _, _, _, _, hs => by cases hs
  | n + 1, q, q', u, h, hs => by
    unfold mLoop at hs
    split at hs
    · cases hs
    rename_i t ht
    split at hs
    · cases hs; exact ⟨h, id⟩
    · obtain ⟨_, q1, h1, hs⟩ := pbind_ok hs
      have hh : GI len q1 ∧ (q1.fa = [] → q.fa = []) := ?_
      · obtain ⟨a, b⟩ := GI.loop g n hh.1 hs
        exact ⟨a, fun z => hh.2 (b z)⟩
      unfold mBody at h1
      rw [ht] at h1
      simp only at h1
      split at h1
      · exact h.start g h1
      · split at h1
        · exact h.pause g h1
        · split at h1
          · exact h.rank g h1
          · cases h1
theorem addV_inv : ∀ (us : List Tk) (q : PQ), (∀ u ∈ us, NmW u.t) → (∀ w ∈ q.na, NmW w) → q.na.Nodup → q.na.length ≤ 8 → (us ≠ [] ∨ q.na ≠ []) →
    (∀ w ∈ (us.foldl addV q).na, NmW w) ∧ (us.foldl addV q).na.Nodup ∧ (us.foldl addV q).na.length ≤ 8 ∧ (us.foldl addV q).na ≠ [] ∧ (us.foldl addV q).sts = q.sts ∧ (us.foldl addV q).pa = q.pa ∧ (us.foldl addV q).r = q.r ∧ ((us.foldl addV q).fa = [] → q.fa = []) ∧ ((∀ f ∈ q.fa, PyData.strOk f.2.2.2 = true) → ∀ f ∈ (us.foldl addV q).fa, PyData.strOk f.2.2.2 = true)
  | [], q, _, h1, h2, h3, h4 => ⟨h1, h2, h3, by rcases h4 with h | h; exact absurd rfl h; exact h, rfl, rfl, rfl, id, id⟩
  | t :: us, q, hu, h1, h2, h3, h4 => by
    rw [List.foldl_cons]
    have ht := hu t List.mem_cons_self
    have hr : ∀ u ∈ us, NmW u.t := fun u h => hu u (List.mem_cons_of_mem _ h)
    have step : (∀ w ∈ (addV q t).na, NmW w) ∧ (addV q t).na.Nodup ∧ (addV q t).na.length ≤ 8 ∧ (addV q t).na ≠ [] ∧ (addV q t).sts = q.sts ∧ (addV q t).pa = q.pa ∧ (addV q t).r = q.r ∧ ((addV q t).fa = [] → q.fa = []) ∧ ((∀ f ∈ q.fa, PyData.strOk f.2.2.2 = true) → ∀ f ∈ (addV q t).fa, PyData.strOk f.2.2.2 = true) := by
      unfold addV
      split
      · rename_i hm
        exact ⟨h1, h2, h3, (fun z => by rw [show (mFound "duplicate" t q).na = q.na from rfl] at z; rw [z] at hm; exact nomatch hm), rfl, rfl, rfl, (fun z => absurd z (found_ne _ _ _)), found_fo (strOk_lit _)⟩
      · rename_i hm
        split
        · rename_i h8
          exact ⟨h1, h2, h3, (fun z => by rw [show (mFound "valves" t q).na = q.na from rfl] at z; rw [z] at h8; exact nomatch h8), rfl, rfl, rfl, (fun z => absurd z (found_ne _ _ _)), found_fo (strOk_lit _)⟩
        · rename_i h8
          refine ⟨fun w hw => ?_, ?_, ?_, by simp, rfl, rfl, rfl, id, id⟩
          · rcases List.mem_append.mp hw with hw | hw
            · exact h1 w hw
            · rw [List.mem_singleton.mp hw]; exact ht
          · exact List.nodup_append.mpr ⟨h2, by simp, by
              intro a ha b hb
              rw [List.mem_singleton.mp hb]
              intro z; rw [z] at ha; exact hm ha⟩
          · simp only [List.length_append, List.length_singleton]; omega
    obtain ⟨a1, a2, a3, a4, a5, a6, a7, a8, a9⟩ := step
    obtain ⟨b1, b2, b3, b4, b5, b6, b7, b8, b9⟩ := addV_inv us (addV q t) hr a1 a2 a3 (.inr a4)
    exact ⟨b1, b2, b3, b4, b5.trans a5, b6.trans a6, b7.trans a7, fun z => a8 (b8 z), fun z => b9 (a9 z)⟩
theorem mNumber_ok {w : String} {hi n : Nat} (h : mNumber ts w hi q = .ok (n, q')) : sameF q q' ∧ (q'.fa = [] → 1 ≤ n ∧ n ≤ hi) := by
  unfold mNumber at h
  obtain ⟨_, q1, h1, h⟩ := pbind_ok h
  obtain ⟨t, q2, h2, h⟩ := pbind_ok h
  obtain ⟨_, q3, h3, h⟩ := pbind_ok h
  have e1 := mWord_ok h1
  obtain ⟨_, _, e2⟩ := mTake_ok h2
  have e3 := mWord_ok h3
  have s3 : sameF q q3 := by rw [e3, e2, e1]; exact .refl q _
  simp only [Except.ok.injEq, Prod.mk.injEq] at h
  obtain ⟨rfl, rfl⟩ := h
  split
  · rename_i c
    exact ⟨s3, fun _ => c⟩
  · exact ⟨s3.trans (.found _ _ _), fun z => absurd z (found_ne _ _ _)⟩
theorem all_gi (g : GT ts) {len most : Nat} (h : mAll ts = .ok ((len, most), q)) : GI len q ∧ (q.fa = [] → 1 ≤ len ∧ len ≤ 60 ∧ 1 ≤ most ∧ most ≤ 9) := by
  unfold mAll at h
  obtain ⟨l, q1, h1, h⟩ := pbind_ok h
  obtain ⟨m, q2, h2, h⟩ := pbind_ok h
  obtain ⟨_, q3, h3, h⟩ := pbind_ok h
  obtain ⟨_, q4, h4, h⟩ := pbind_ok h
  cases h
  obtain ⟨s1, c1⟩ := mNumber_ok h1
  obtain ⟨s2, c2⟩ := mNumber_ok h2
  have s12 := s1.trans s2
  unfold mValves at h3
  obtain ⟨_, q5, h5, h3⟩ := pbind_ok h3
  obtain ⟨us, q6, h6, h3⟩ := pbind_ok h3
  have e5 := mWord_ok h5
  obtain ⟨n1, n2, n3, n4⟩ := mNames_ok g h6
  have s6 : sameF q2 q6 := by rw [n4, e5]; exact .refl q2 _
  have S := s12.trans s6
  have hna : q6.na = [] := S.1
  obtain ⟨b1, b2, b3, b4, b5, b6, b7, b8, b9⟩ := addV_inv us q6 n1 (by rw [hna]; intro w hw; cases hw) (by rw [hna]; exact List.nodup_nil) (by rw [hna]; simp) (.inl n2)
  cases h3
  have hst : (us.foldl addV q6).sts = [] := b5.trans S.2.1
  have hpa : (us.foldl addV q6).pa = [] := b6.trans S.2.2.1
  have hr : (us.foldl addV q6).r = none := b7.trans S.2.2.2.1
  have G3 : GI len (us.foldl addV q6) := ⟨b1, b2, b3, b4, (fun js hj => by rw [hr] at hj; cases hj), (fun _ s hs => by rw [hst] at hs; cases hs), (fun _ => by rw [hst]; simp), (fun _ p hp => by rw [hpa] at hp; cases hp), (fun _ js hj => by rw [hr] at hj; cases hj), b9 (S.2.2.2.2.2 fun f hf => by cases hf)⟩
  obtain ⟨G4, z4⟩ := G3.loop g _ h4
  refine ⟨G4, fun z => ?_⟩
  have z2 := s6.2.2.2.2.1 (b8 (z4 z))
  obtain ⟨a, b⟩ := c1 (s2.2.2.2.2.1 z2)
  obtain ⟨c, d⟩ := c2 z2
  exact ⟨a, b, c, d⟩
end
end G
namespace G
open PySem L2 Cl
abbrev chkX (f : F4) : XD := ⟨"CheckFault", [("column", .int f.2.1), ("line", .int f.1), ("reason", .str f.2.2.2)]⟩
def PQ.plan (q : PQ) (len most : Nat) : D := planD len most (q.na.map Sc) ((q.sts.map triD).mergeSort leTwo) ((List.range len).map fun i => .bl (pausedAt q.pa i)) ((rankOf q.na.length q.r.toList).map iD)
noncomputable def tl_planM : MS := (sSeq (sSet 7 (eLc [10] (iArgs gRange1 (aCons (eVar 1) aNil)) (tgName 10) tTrue e3_Parser_parse_planM))
    (sSeq (sSet 11 (eIf (tBin (gIsN true) (eFld ["Parser"] "ranks" (eVar 0)) (eC .non)) (eFld ["Parser"] "ranks" (eVar 0)) (eArgs gLst aNil)))
    (sSeq (sSet 11 (eBin gAdd (eVar 11) (eLc [12] (iArgs gRange1 (aCons (eArgs (g1 gLen) (aCons (eFld ["Parser"] "names" (eVar 0)) aNil)) aNil)) (tgName 12) t1_Parser_parse_planM e1_Parser_parse_planM)))
    (sSeq (sSet 13 (eSort2 (eFld ["Parser"] "starts" (eVar 0))))
    (sRet (eArgs (gMakeM 7 F_Plan_init []) (aCons (eVar 1) (aCons (eVar 2) (aCons (eArgs (g1 gTuple) (aCons (eFld ["Parser"] "names" (eVar 0)) aNil)) (aCons (eVar 13) (aCons (eVar 7) (aCons (eVar 11) aNil))))))))))))
noncomputable def mid_planM : MS := (sIf (tBin gNe (eFld ["Parser"] "faults" (eVar 0)) (eArgs gLst aNil)) (sSeq (sAsg (eArgs (g1 gMinD) (aCons (eFld ["Parser"] "faults" (eVar 0)) aNil)) (tgTup 4 (tgCons (tgName 3) (tgCons (tgName 4) (tgCons (tgName 5) (tgCons (tgName 6) tgNil))))))
    (sRaise "CheckFault" ["reason", "line", "column"] (aCons (eVar 6) (aCons (eVar 3) (aCons (eVar 4) aNil))))) sNext)
theorem b_planM : b_Parser_parse_planM = (sSeq (sSet 1 (eMeth ["Parser"] "parse_number" (gCallO 3 F_Parser_parse_number []) (eVar 0) (aCons (eC (.str "round")) (aCons (eC (.int 60)) aNil))))
    (sSeq (sSet 2 (eMeth ["Parser"] "parse_number" (gCallO 3 F_Parser_parse_number []) (eVar 0) (aCons (eC (.str "open")) (aCons (eC (.int 9)) aNil))))
    (sSeq (sExpr (eMeth ["Parser"] "parse_valves" (gCallO 1 F_Parser_parse_valves []) (eVar 0) aNil))
    (sSeq (sWhile c1_Parser_parse_planM l1_Parser_parse_planM)
    (sSeq mid_planM tl_planM))))) := rfl
section
variable {ts : List Tk} {q : PQ} {len most : Nat}
abbrev slP (len most : Nat) : Sl := [some (.obj 0), some (nV len), some (nV most), none, none, none, none, none, none, none, none, none, none, none]
theorem tail_ok (h : QI q) (hp : q.pa.length ≤ 900) (hlen : len ≤ 1000) (hr : ∀ js, q.r = some js → js.length ≤ 1000000) : ∃ sl', tl_planM (slP len most) (PSt (ts.map Tk.d) q.ps []) = some (.rt (.val (q.plan len most)), sl', PSt (ts.map Tk.d) q.ps []) := by
  have z0 : (0 : Nat) ≤ sizeLine := Nat.zero_le _
  have qna : q.ps.na = (q.na.map Sc).map .str := ps_na q
  have qst : q.ps.sts = q.sts.map triD := rfl
  have qpa : q.ps.pa = q.pa.map fun z => pr z.1 z.2 := rfl
  have qr : q.ps.r = rD q.r := rfl
  have f1 := paused_eq (toks := ts.map Tk.d) (p := q.ps) (len := len) q.pa qpa hp hlen (slP len most) rfl rfl rfl
  unfold tl_planM
  rw [seq_nx (set_nx (show eLc [10] (iArgs gRange1 (aCons (eVar 1) aNil)) (tgName 10) tTrue e3_Parser_parse_planM (slP len most) (PSt (ts.map Tk.d) q.ps []) = _ from f1))]
  simp only [List.set_cons_zero, List.set_cons_succ]
  have rk : ∃ js : List Nat, js.length ≤ 1000000 ∧ rankOf q.na.length q.r.toList = js ++ (List.range q.na.length).filter (fun i => !decide (i ∈ js)) ∧
      eIf (tBin (gIsN true) (eFld ["Parser"] "ranks" (eVar 0)) (eC .non)) (eFld ["Parser"] "ranks" (eVar 0)) (eArgs Cl.gLst aNil) [some (.obj 0), some (nV len), some (nV most), none, none, none, none, some (.val (.lst ((List.range len).map fun i => .bl (pausedAt q.pa i)))), none, none, none, none, none, none] (PSt (ts.map Tk.d) q.ps []) = some (.ok (.val (.lst (js.map iD))), PSt (ts.map Tk.d) q.ps []) := by
    match hrk : q.r with
    | none =>
      rw [hrk] at qr
      refine ⟨[], by simp, by simp only [Option.toList, rankOf, List.not_mem_nil, decide_false, Bool.not_false, List.nil_append]; exact (List.filter_eq_self.mpr (by simp)).symm, ?_⟩
      simp [gIsN, isNonS, qr, rD, Cl.gLst, z0]
    | some js =>
      rw [hrk] at qr
      refine ⟨js, hr js hrk, by simp [Option.toList, rankOf], ?_⟩
      simp [gIsN, isNonS, qr, rD]
  obtain ⟨js, hj, rk1, rk2⟩ := rk
  rw [seq_nx (set_nx rk2)]
  simp only [List.set_cons_zero, List.set_cons_succ]
  have f2 := rest_eq (toks := ts.map Tk.d) (p := q.ps) (nms := q.na.map Sc) js (by rw [List.length_map]; exact h.n8) qna [some (.obj 0), some (nV len), some (nV most), none, none, none, none, some (.val (.lst ((List.range len).map fun i => .bl (pausedAt q.pa i)))), none, none, none, some (.val (.lst (js.map iD))), none, none] rfl rfl rfl
  rw [List.length_map] at f2
  have f3 : eBin gAdd (eVar 11) (eLc [12] (iArgs gRange1 (aCons (eArgs (g1 gLen) (aCons (eFld ["Parser"] "names" (eVar 0)) aNil)) aNil)) (tgName 12) t1_Parser_parse_planM e1_Parser_parse_planM) [some (.obj 0), some (nV len), some (nV most), none, none, none, none, some (.val (.lst ((List.range len).map fun i => .bl (pausedAt q.pa i)))), none, none, none, some (.val (.lst (js.map iD))), none, none] (PSt (ts.map Tk.d) q.ps []) =
      some (.ok (.val (.lst ((rankOf q.na.length q.r.toList).map iD))), PSt (ts.map Tk.d) q.ps []) := by
    have f2' : eLc [12] (iArgs gRange1 (aCons (eArgs (g1 gLen) (aCons (eFld ["Parser"] "names" (eVar 0)) aNil)) aNil)) (tgName 12) t1_Parser_parse_planM e1_Parser_parse_planM [some (.obj 0), some (nV len), some (nV most), none, none, none, none, some (.val (.lst ((List.range len).map fun i => .bl (pausedAt q.pa i)))), none, none, none, some (.val (.lst (js.map iD))), none, none] (PSt (ts.map Tk.d) q.ps []) = some (.ok (.val (.lst (((List.range q.na.length).filter fun i => !decide (i ∈ js)).map iD))), PSt (ts.map Tk.d) q.ps []) := f2
    rw [bin_ok (a := eVar 11) (x := .val (.lst (js.map iD))) (st := PSt (ts.map Tk.d) q.ps []) (st1 := PSt (ts.map Tk.d) q.ps []) (by simp) f2', gAdd_lst]
    · rw [rk1, List.map_append]
    · have := List.length_filter_le (fun i => !decide (i ∈ js)) (List.range q.na.length)
      rw [List.length_range] at this
      have := h.n8
      simp only [List.length_map]
      exact Nat.le_of_lt (sizes (by omega))
  rw [seq_nx (set_nx f3)]
  simp only [List.set_cons_zero, List.set_cons_succ]
  have f4 : ∀ sl : Sl, sl[0]? = some (some (.obj 0)) → eSort2 (eFld ["Parser"] "starts" (eVar 0)) sl (PSt (ts.map Tk.d) q.ps []) = some (.ok (.val (.lst ((q.sts.map triD).mergeSort leTwo))), PSt (ts.map Tk.d) q.ps []) := fun sl h0 => by
    have t2 : ((q.sts.map triD).all fun d => (twoO d).isSome) = true := by
      rw [List.all_eq_true]
      intro d hd
      obtain ⟨s, _, rfl⟩ := List.mem_map.mp hd
      rfl
    have g : gSort2 (.obj 3) (PSt (ts.map Tk.d) q.ps []) = some (.ok (.val (.lst ((q.sts.map triD).mergeSort leTwo))), PSt (ts.map Tk.d) q.ps []) := by
      unfold gSort2
      simp only [lstOf, P_3, qst, Option.bind_some, datas_val]
      rw [if_pos t2]
    simp [h0, g]
  rw [seq_nx (set_nx (i := 13) (f4 _ rfl))]
  simp only [List.set_cons_zero, List.set_cons_succ]
  exact ⟨_, by simp [gTuple, qna, plan_init, planD, PQ.plan]; rfl⟩
theorem mid_no (hf : q.fa = []) : mid_planM (slP len most) (PSt (ts.map Tk.d) q.ps []) = some (.nx, slP len most, PSt (ts.map Tk.d) q.ps []) := by
  have z0 : (0 : Nat) ≤ sizeLine := Nat.zero_le _
  have qfa : q.ps.fa = [] := by simp [PQ.ps, hf]
  have f0 : gNe (.obj 1) (.val (.lst [])) (PSt (ts.map Tk.d) q.ps []) = some (.ok (.val (.bl false)), PSt (ts.map Tk.d) q.ps []) := by
    simp [gNe, gEqB, toPS, toP, toPs, qfa]
    exact ⟨rfl, by simp [PyData.eqv, PyData.eqvAll]⟩
  unfold mid_planM
  rw [if_f (tbin (by rw [bin_ok (x := .obj 1) (y := .val (.lst [])) (st1 := PSt (ts.map Tk.d) q.ps []) (st2 := PSt (ts.map Tk.d) q.ps []) (by simp) (by simp [Cl.gLst, z0]), f0]))]
  rfl
theorem mid_yes (h : QI q) (hfo : ∀ f ∈ q.fa, PyData.strOk f.2.2.2 = true) {p : F4} {ps : List F4} (hf : q.fa = p :: ps) : ∃ sl', mid_planM (slP len most) (PSt (ts.map Tk.d) q.ps []) = some (.xc (chkX (minF p ps)), sl', PSt (ts.map Tk.d) q.ps []) := by
  have z0 : (0 : Nat) ≤ sizeLine := Nat.zero_le _
  have qfa : q.ps.fa = fD p :: ps.map fD := by simp [PQ.ps, hf]
  have nd : ((p :: ps).map (·.2.2.1)).Nodup := by rw [← hf, h.fn]; exact List.nodup_range
  have f0 : gNe (.obj 1) (.val (.lst [])) (PSt (ts.map Tk.d) q.ps []) = some (.ok (.val (.bl true)), PSt (ts.map Tk.d) q.ps []) := by
    have := gEqB_eq (x := .obj 1) (y := .val (.lst [])) (st := PSt (ts.map Tk.d) q.ps []) (a := .lst (fD p :: ps.map fD)) (b := .lst []) true (by simp only [asD, lstOf, P_1, qfa]; rw [datas_val]; rfl) (by simp [asD]) (by
      show okPs false 59 ((p :: ps).map fD) = true
      rw [okPs_iff]
      intro d hd
      obtain ⟨f, hf2, rfl⟩ := List.mem_map.mp hd
      have := hfo f (by rw [hf]; exact hf2)
      simp [fD, okP, okPs, this]) rfl
    have e0 : eqD (.lst (fD p :: ps.map fD)) (.lst []) = false := by rw [Bool.eq_false_iff, ne_eq, eqD_iff]; intro z; cases z
    rw [e0] at this
    exact this
  have gm : gMinD (.obj 1) (PSt (ts.map Tk.d) q.ps []) = some (.ok (.val (fD (minF p ps))), PSt (ts.map Tk.d) q.ps []) := gMin_eq nd (by
    simp only [lstOf, P_1, qfa, Option.bind_some]
    rw [datas_val]; rfl)
  unfold mid_planM
  rw [if_t (tbin (by rw [bin_ok (x := .obj 1) (y := .val (.lst [])) (st1 := PSt (ts.map Tk.d) q.ps []) (st2 := PSt (ts.map Tk.d) q.ps []) (by simp) (by simp [Cl.gLst, z0]), f0]))]
  have ea : eArgs (g1 gMinD) (aCons (eFld ["Parser"] "faults" (eVar 0)) aNil) (slP len most) (PSt (ts.map Tk.d) q.ps []) = some (.ok (.val (fD (minF p ps))), PSt (ts.map Tk.d) q.ps []) := by
    rw [args1 (x := .obj 1) (st' := PSt (ts.map Tk.d) q.ps []) (by simp)]
    exact gm
  generalize minF p ps = f at ea
  rw [seq_nx (asg_nx (sl' := [some (.obj 0), some (nV len), some (nV most), some (nV f.1), some (nV f.2.1), some (nV f.2.2.1), some (.val (.str f.2.2.2)), none, none, none, none, none, none, none]) (st2 := PSt (ts.map Tk.d) q.ps []) ea (by simp [fD]))]
  exact ⟨_, by simp [backF]; rfl⟩
theorem planP (g : GT ts) (h9 : ts.length ≤ 900) :
    (∃ len most q, mAll ts = .ok ((len, most), q) ∧ QI q ∧ q.i < ts.length ∧
      (∀ p ps, q.fa = p :: ps → F_Parser_parse_planM [.obj 0] (PSt (ts.map Tk.d) q0.ps []) = some (.error (chkX (minF p ps)), PSt (ts.map Tk.d) q.ps [])) ∧
      (q.fa = [] → F_Parser_parse_planM [.obj 0] (PSt (ts.map Tk.d) q0.ps []) = some (.ok (.val (q.plan len most)), PSt (ts.map Tk.d) q.ps []))) ∨
    (∃ l c p', mAll ts = .error (l, c) ∧ F_Parser_parse_planM [.obj 0] (PSt (ts.map Tk.d) q0.ps []) = some (.error (synX l c), PSt (ts.map Tk.d) p' [])) := by
  have hi0 : q0.i < ts.length := by
    obtain ⟨us, n, rfl, _⟩ := g.ex
    simp [q0]
  have Q0 : QI q0 := ⟨List.nodup_nil, (fun w hw => by cases hw), by decide, by decide, rfl, by decide, by decide⟩
  have hag := @all_gi ts
  unfold mAll at hag ⊢
  unfold F_Parser_parse_planM asC
  rw [b_planM, show mkSl 14 [.obj 0] = [some (.obj 0), none, none, none, none, none, none, none, none, none, none, none, none, none] from rfl, show (PSt (ts.map Tk.d) q0.ps []).length = ([] : List O).length + 5 from rfl]
  rcases numberP (ex := []) g exOk_nil hi0 (by decide) "round" (okC_cds _) (by decide) 60 with ⟨n, q1, m1, n1, i1, l1, w1, f1⟩ | ⟨l, c, p', m1, f1⟩
  rotate_left
  · refine .inr ⟨l, c, p', by rw [m1]; rfl, ?_⟩
    rw [seq_xc (set_xc (meth2x (var0 rfl) (p_chk "parse_number") rfl rfl f1))]
    exact exit_xc0 exOk_nil _ _
  have Q1 : QI q1 := by
    obtain ⟨t, h | h⟩ := w1
    · rw [h.1]; exact Q0.go 3
    · rw [h]; exact (Q0.go 3).found _ _ (by decide)
  rw [m1] at hag ⊢
  simp only [pbind] at hag ⊢
  rw [seq_nx (set_nx (meth2 (var0 rfl) (p_chk "parse_number") rfl rfl f1))]
  simp only [List.set_cons_zero, List.set_cons_succ]
  rcases numberP (ex := []) g exOk_nil l1 (Q1.f8 g (by omega)) "open" (okC_cds _) (by decide) 9 with ⟨m, q2, m2, n2, i2, l2, w2, f2⟩ | ⟨l, c, p', m2, f2⟩
  rotate_left
  · refine .inr ⟨l, c, p', by rw [m2], ?_⟩
    rw [seq_xc (set_xc (meth2x (var0 rfl) (p_chk "parse_number") rfl rfl f2))]
    exact exit_xc0 exOk_nil _ _
  have Q2 : QI q2 := by
    have := Q1.fa
    obtain ⟨t, h | h⟩ := w2
    · rw [h.1]; exact Q1.go 3
    · rw [h]; exact (Q1.go 3).found _ _ (by show q1.fa.length + 1 ≤ 4 * (q1.i + 3); omega)
  rw [m2] at hag ⊢
  simp only at hag ⊢
  rw [seq_nx (set_nx (meth2 (var0 rfl) (p_chk "parse_number") rfl rfl f2))]
  simp only [List.set_cons_zero, List.set_cons_succ]
  rcases valvesP (ex := []) g exOk_nil l2 Q2 with ⟨q3, m3, i3, l3, Q3, f3⟩ | ⟨l, c, p', m3, f3⟩
  rotate_left
  · refine .inr ⟨l, c, p', by rw [m3], ?_⟩
    rw [seq_xc (expr_xc (meth0 (var0 rfl) (p_chk "parse_valves") f3))]
    exact exit_xc0 exOk_nil _ _
  rw [m3] at hag ⊢
  simp only at hag ⊢
  rw [seq_nx (expr_nx (meth0 (var0 rfl) (p_chk "parse_valves") f3))]
  rcases loopP g n (some (nV m) :: [none, none, none, none, none, none, none, none, none, none, none]) ts.length q3 (by omega) l3 Q3 with ⟨q4, m4, l4, Q4, f4⟩ | ⟨l, c, p', m4, f4⟩
  rotate_left
  · refine .inr ⟨l, c, p', by rw [m4], ?_⟩
    rw [seq_xc f4]
    exact exit_xc0 exOk_nil _ _
  rw [m4] at hag ⊢
  simp only at hag ⊢
  rw [seq_nx f4]
  obtain ⟨G4, _⟩ := hag (q := q4) (len := n) (most := m) g rfl
  refine .inl ⟨n, m, q4, rfl, Q4, l4, fun p ps hf => ?_, fun hf => ?_⟩
  · obtain ⟨sl', e⟩ := mid_yes (ts := ts) (len := n) (most := m) Q4 G4.fo hf
    rw [seq_xc e]
    exact exit_xc0 exOk_nil _ _
  · obtain ⟨sl', e⟩ := tail_ok (ts := ts) (len := n) (most := m) Q4 (by have := Q4.pa; omega) (by omega) G4.rl
    rw [seq_nx (mid_no (ts := ts) (len := n) (most := m) hf), e]
    exact exit_rt0 exOk_nil _ _
end
end G
namespace G
open PySem L2 Cl
def le2 (a b : T3) : Bool := decide (a.1 < b.1 ∨ (a.1 = b.1 ∧ a.2.1 ≤ b.2.1))
def PQ.pl (q : PQ) (len most : Nat) : Pl := ⟨len, most, q.na, rankOf q.na.length q.r.toList, q.sts.mergeSort le2, (List.range len).filter (pausedAt q.pa)⟩
section
variable {q : PQ} {len most : Nat}
theorem rankOf_perm {n : Nat} {r : Option (List Nat)} (h : ∀ js, r = some js → js.Nodup ∧ ∀ j ∈ js, j < n) : (rankOf n r.toList).Perm (List.range n) := by
  match r with
  | none => simp [Option.toList, rankOf]
  | some js =>
    obtain ⟨nd, lt⟩ := h js rfl
    simp only [Option.toList, rankOf]
    refine (List.perm_ext_iff_of_nodup ?_ List.nodup_range).mpr fun i => ?_
    · refine List.nodup_append.mpr ⟨nd, List.Pairwise.filter _ List.nodup_range, ?_⟩
      intro a ha b hb
      have := (List.mem_filter.mp hb).2
      intro z; rw [z] at ha; simp [ha] at this
    · rw [List.mem_append, List.mem_filter, List.mem_range]
      by_cases c : i ∈ js
      · simp [c, lt i c]
      · simp [c]
theorem pl_ok (h : GI len q) (hf : q.fa = []) (hl : 1 ≤ len ∧ len ≤ 60 ∧ 1 ≤ most ∧ most ≤ 9) : Pok (q.pl len most) := by
  have perm := List.mergeSort_perm q.sts le2
  refine ⟨hl.1, hl.2.1, hl.2.2.1, hl.2.2.2, h.n1, h.n8, h.nd, h.nw, rankOf_perm (h.rk hf), fun s hs => h.st hf s (perm.mem_iff.mp hs), ?_, ?_, ?_, fun t ht => ?_⟩
  · show (q.sts.mergeSort le2).length ≤ 20
    rw [perm.length_eq]; exact h.s20 hf
  · have := List.pairwise_mergeSort (le := le2) (fun a b c h1 h2 => by
      unfold le2 at *
      rw [decide_eq_true_iff] at *
      omega) (fun a b => by
      unfold le2
      rw [Bool.or_eq_true, decide_eq_true_iff, decide_eq_true_iff]
      omega) q.sts
    exact this.imp fun {a b} z => by unfold le2 at z; exact decide_eq_true_iff.mp z
  · exact List.Pairwise.filter _ List.pairwise_lt_range
  · exact List.mem_range.mp (List.mem_filter.mp ht).1
theorem plan_pl (q : PQ) (len most : Nat) : q.plan len most = (q.pl len most).parsed := by
  have e1 : (q.sts.map triD).mergeSort leTwo = (q.sts.mergeSort le2).map triD := (List.map_mergeSort (f := triD) (r := le2) (s := leTwo) (l := q.sts) fun a _ b _ => by
    rw [Bool.eq_iff_iff]; simp [leTwo, tri, twoD, twoO, le2]; omega).symm
  have e2 : ((List.range len).map fun i => D.bl (pausedAt q.pa i)) = (List.range len).map fun i => D.bl (decide (i ∈ (List.range len).filter (pausedAt q.pa))) := by
    apply List.map_congr_left
    intro i hi
    congr 1
    rw [Bool.eq_iff_iff, decide_eq_true_iff, List.mem_filter]
    exact ⟨fun z => ⟨hi, z⟩, fun z => z.2⟩
  unfold PQ.plan Pl.parsed PQ.pl
  rw [e1, e2]
end
theorem readT_ok {m : List Nat} {l c : Nat} {t : Tk} (h : readT m l c = some t) : TkOk t := by
  unfold readT at h
  match m, h with
  | a :: r, h =>
    dsimp only at h
    have al : ∀ p : Nat → Bool, ∀ x ∈ (a :: r).takeWhile p, p x = true := fun p x hx => List.all_eq_true.mp (List.all_takeWhile (p := p) (l := a :: r)) x hx
    split at h
    · cases h; exact WdOk.sign
    · split at h
      · rename_i hd
        split at h
        · cases h
        · rename_i hc
          cases h
          refine WdOk.num ⟨by simp [List.takeWhile_cons, hd], by show ((a :: r).takeWhile isDig).length ≤ 2; omega, al _, ?_⟩
          by_cases h1 : ((a :: r).takeWhile isDig).length = 1
          · exact .inl h1
          · right
            intro r' e
            have h0 : 1 ≤ ((a :: r).takeWhile isDig).length := by simp [List.takeWhile_cons, hd]
            have : a = 48 := by
              have : (a :: r).takeWhile isDig = a :: r.takeWhile isDig := by simp [List.takeWhile_cons, hd]
              rw [this] at e
              exact (List.cons.inj e).1
            omega
      · split at h
        · rename_i hk
          cases h
          refine WdOk.key ⟨hk, al _, ?_⟩
          rcases Nat.eq_zero_or_pos ((a :: r).takeWhile isLet).length with hz | hz
          · rw [List.length_eq_zero_iff.mp hz] at hk
            exact absurd hk (by unfold keyW; simp only [Sc_of, List.mem_cons, Sc_eq, List.not_mem_nil, or_false]; decide)
          · exact hz
        · rename_i hk
          split at h
          · rename_i h1
            cases h
            exact WdOk.name ⟨h1.1, h1.2, al _, hk⟩
          · cases h
theorem lexR_tk (l : Nat) : ∀ (n : Nat) (m : List Nat) (c : Nat), m.length ≤ n → ∀ t ∈ (lexR l m c).1, TkOk t := by
  intro n
  induction n with
  | zero =>
    intro m c hm t ht
    rw [List.length_eq_zero_iff.mp (Nat.le_zero.mp hm), lexR] at ht
    cases ht
  | succ n ih =>
    intro m c hm t ht
    match m, hm, ht with
    | [], _, ht => rw [lexR] at ht; cases ht
    | a :: r, hm, ht =>
      simp only [List.length_cons] at hm
      rw [lexR] at ht
      split at ht
      · exact ih r (c + 1) (by omega) t ht
      · split at ht
        · cases ht
        · rename_i t' e
          rcases List.mem_cons.mp ht with rfl | ht
          · exact readT_ok e
          · exact ih _ _ (by rw [List.length_drop]; omega) t ht
theorem lexA_tk : ∀ (rs : List (List Nat)) (l : Nat), ∀ t ∈ (lexA l rs).1, TkOk t
  | [], l, t, ht => by cases ht
  | r :: rs, l, t, ht => by
    have h1 := lexR_tk l r.length r 0 (Nat.le_refl _)
    unfold lexA at ht
    match e : lexR l r 0 with
    | (ts, some c) => rw [e] at ht h1; exact h1 t ht
    | (ts, none) =>
      rw [e] at ht h1
      rcases List.mem_append.mp ht with ht | ht
      · exact h1 t ht
      · exact lexA_tk rs (l + 1) t ht
/-- what format_plan does -/
inductive Out where
  | syn (l c : Nat)
  | chk (f : F4)
  | fine
def outOf (s : List Nat) : Out := match lexA 0 (TL.spl [10] 0 [] s) with
  | (_, some (l, c)) => .syn l c
  | (ts, none) => match mAll (ts ++ [⟨"end", [], (TL.spl [10] 0 [] s).length, 0⟩]) with
    | .error (l, c) => .syn l c
    | .ok (_, q) => match q.fa with
      | [] => .fine
      | p :: ps => .chk (minF p ps)
theorem formatM {s : List Nat} (hok : okC s) (hl : s.length ≤ 4000000) (h9 : ∀ ts, lexA 0 (TL.spl [10] 0 [] s) = (ts, none) → ts.length < 900) : match outOf s with
    | .syn l c => F_format_planM [strL s] = some (.error (synX l c))
    | .chk f => F_format_planM [strL s] = some (.error (chkX f))
    | .fine => ∃ v, F_format_planM [strL s] = some (.ok v) := by
  have ht := tokenize_eq hok hl
  have htk := lexA_tk (TL.spl [10] 0 [] s) 0
  unfold outOf
  match e : lexA 0 (TL.spl [10] 0 [] s) with
  | (_, some (l, c)) =>
    rw [e] at ht
    simp only at ht ⊢
    unfold F_format_planM asP b_format_planM F_loadM asP b_loadM
    simp [strL, ht]
  | (ts, none) =>
    rw [e] at ht htk
    have hsz := h9 ts e
    simp only at ht htk ⊢
    obtain ⟨ts', hts⟩ : ∃ ts', ts' = ts ++ [⟨"end", [], (TL.spl [10] 0 [] s).length, 0⟩] := ⟨_, rfl⟩
    have g : GT ts' := ⟨⟨ts, _, hts, htk⟩, by rw [hts]; simp; omega⟩
    have hm : ts.map Tk.d ++ [tokD "end" "" (TL.spl [10] 0 [] s).length 0] = ts'.map Tk.d := by rw [hts, List.map_append]; rfl
    rw [hm] at ht
    rw [← hts]
    have hi := parser_init (.lst (ts'.map Tk.d))
    have hp : (PSt (ts'.map Tk.d) q0.ps [] : List O) = [.ins "Parser" [("tokens", .val (.lst (ts'.map Tk.d))), ("at", .val (.int 0)), ("faults", .obj 1), ("names", .obj 2), ("starts", .obj 3), ("pauses", .obj 4), ("ranks", .val .non)], .lst [], .lst [], .lst [], .lst []] := rfl
    have ldx : ∀ {x : XD} {p' : PS}, F_Parser_parse_planM [.obj 0] (PSt (ts'.map Tk.d) q0.ps []) = some (.error x, PSt (ts'.map Tk.d) p' []) → F_format_planM [strL s] = some (.error x) := fun {x p'} hq => by
      rw [hp] at hq
      have hL : F_loadM [strL s] = some (.error x) := by simp [F_loadM, b_loadM, strL, ht, hi, hq]
      simp [F_format_planM, b_format_planM, hL]
    have ldo : ∀ {d v : D} {p' : PS}, F_Parser_parse_planM [.obj 0] (PSt (ts'.map Tk.d) q0.ps []) = some (.ok (.val d), PSt (ts'.map Tk.d) p' []) → F_format_parsed [d] = some (.ok v) → F_format_planM [strL s] = some (.ok v) := fun {d v p'} hq hv => by
      rw [hp] at hq
      have hL : F_loadM [strL s] = some (.ok d) := by simp [F_loadM, b_loadM, strL, ht, hi, hq, deepD]
      simp [F_format_planM, b_format_planM, hL, hv, deepD]
    rcases planP g (by rw [hts]; simp; omega) with ⟨len, most, q, m1, Q, hi, f1, f2⟩ | ⟨l, c, p', m1, f1⟩
    · rw [m1]
      simp only
      match hq : q.fa with
      | [] =>
        simp only
        obtain ⟨G, b⟩ := all_gi g m1
        have hp2 := pl_ok (most := most) G hq (b hq)
        exact ⟨_, ldo (f2 hq) (by rw [plan_pl]; exact format_eq hp2)⟩
      | p :: ps => exact ldx (f1 p ps hq)
    · rw [m1]
      exact ldx f1
end G
namespace G
open PySem L2 Cl
theorem spl_ev (acc : List Nat) (c : Nat) (s : List Nat) : TL.spl [10] 0 acc (c :: s) = if c = 10 then acc :: TL.spl [10] 0 [] s else TL.spl [10] 0 (acc ++ [c]) s := by
  have : TL.spl [10] 0 acc (c :: s) = if decide (c = 10) = true then acc :: TL.spl [10] 0 [] s else TL.spl [10] 0 (acc ++ [c]) s := by
    rw [← pre10 c s]; rfl
  rw [this]; simp
theorem spl_acc : ∀ (s acc : List Nat), ∃ r rs, TL.spl [10] 0 [] s = r :: rs ∧ TL.spl [10] 0 acc s = (acc ++ r) :: rs ∧ (∀ c r', r = c :: r' → ∃ s', s = c :: s')
  | [], acc => ⟨[], [], rfl, by simp [TL.spl], fun c r' h => by cases h⟩
  | c :: s, acc => by
    rw [spl_ev, spl_ev]
    by_cases h : c = 10
    · rw [if_pos h, if_pos h]
      exact ⟨[], TL.spl [10] 0 [] s, rfl, by simp, fun c r' h => by cases h⟩
    · rw [if_neg h, if_neg h]
      obtain ⟨r, rs, e1, e2, _⟩ := spl_acc s ([] ++ [c])
      obtain ⟨r2, rs2, e3, e4, _⟩ := spl_acc s (acc ++ [c])
      rw [e1] at e3
      cases e3
      exact ⟨c :: r, rs, by rw [e2]; simp, by rw [e4]; simp, fun c' r' z => ⟨s, by cases z; rfl⟩⟩
theorem spl_word {w s r : List Nat} {rs : List (List Nat)} (hw : ∀ c ∈ w, c ≠ 10) (h : TL.spl [10] 0 [] s = r :: rs) : TL.spl [10] 0 [] (w ++ s) = (w ++ r) :: rs := by
  have : ∀ (w acc : List Nat), (∀ c ∈ w, c ≠ 10) → TL.spl [10] 0 acc (w ++ s) = TL.spl [10] 0 (acc ++ w) s := by
    intro w
    induction w with
    | nil => intro acc _; simp
    | cons c w ih =>
      intro acc hc
      rw [List.cons_append, spl_ev, if_neg (hc c List.mem_cons_self), ih (acc ++ [c]) fun x hx => hc x (List.mem_cons_of_mem _ hx)]
      simp
  rw [this w [] hw]
  obtain ⟨r2, rs2, e3, e4, _⟩ := spl_acc s ([] ++ w)
  rw [h] at e3
  cases e3
  rw [e4]; simp
def lexP (s : List Nat) (l c : Nat) : List Tk × Option (Nat × Nat) := match TL.spl [10] 0 [] s with
  | [] => ([], none)
  | r :: rs => match lexR l r c with
    | (ts, some c') => (ts, some (l, c'))
    | (ts, none) => (ts ++ (lexA (l + 1) rs).1, (lexA (l + 1) rs).2)
theorem lexA_P (s : List Nat) (l : Nat) : lexA l (TL.spl [10] 0 [] s) = lexP s l 0 := by
  unfold lexP
  match TL.spl [10] 0 [] s with
  | [] => rfl
  | r :: rs => rfl
theorem lexP_nil (l c : Nat) : lexP [] l c = ([], none) := by
  have : TL.spl [10] 0 [] [] = [[]] := rfl
  unfold lexP
  rw [this]
  simp only
  rw [lexR]
  rfl
theorem lexP_nl (s : List Nat) (l c : Nat) : lexP (10 :: s) l c = lexP s (l + 1) 0 := by
  rw [← lexA_P]
  unfold lexP
  rw [spl_ev, if_pos rfl]
  simp only
  rw [lexR]
  simp
theorem lexP_sp (s : List Nat) (l c : Nat) : lexP (32 :: s) l c = lexP s l (c + 1) := by
  obtain ⟨r, rs, e1, _, _⟩ := spl_acc s []
  have e2 := spl_word (w := [32]) (by decide) e1
  unfold lexP
  rw [show 32 :: s = [32] ++ s from rfl, e2, e1]
  simp only [List.singleton_append]
  rw [lexR]
  simp
theorem readT_word {x : KW} (hx : WdOk x) {rest : List Nat} (hs : Stop rest) (l c : Nat) : ∃ a r, x.2 = a :: r ∧ a ≠ 32 ∧ a ≠ 10 ∧ readT (x.2 ++ rest) l c = some ⟨x.1, x.2, l, c⟩ := by
  cases hx with
  | @name w h =>
    obtain ⟨h1, h2, h3, h4⟩ := h
    match w, h1 with
    | a :: r, h1 =>
      have ha := let_dig (h3 a List.mem_cons_self)
      refine ⟨a, r, rfl, ha.2.2.1, ha.2.2.2, ?_⟩
      have tw := tw_stop h3 (stop_let hs)
      simp only [List.cons_append] at tw ⊢
      unfold readT
      dsimp only
      rw [tw, if_neg ha.2.1, if_neg (by rw [ha.1]; decide), if_neg h4, if_pos ⟨h1, h2⟩]
  | @key w h =>
    obtain ⟨h4, h3, h1⟩ := h
    match w, h1 with
    | a :: r, h1 =>
      have ha := let_dig (h3 a List.mem_cons_self)
      refine ⟨a, r, rfl, ha.2.2.1, ha.2.2.2, ?_⟩
      have tw := tw_stop h3 (stop_let hs)
      simp only [List.cons_append] at tw ⊢
      unfold readT
      dsimp only
      rw [tw, if_neg ha.2.1, if_neg (by rw [ha.1]; decide), if_pos h4]
  | @num w h =>
    obtain ⟨h1, h2, h3, h4⟩ := h
    match w, h1 with
    | a :: r, h1 =>
      have ha := dig_let (h3 a List.mem_cons_self)
      refine ⟨a, r, rfl, ha.2.2.1, ha.2.2.2, ?_⟩
      have tw := tw_stop h3 (stop_dig hs)
      simp only [List.cons_append] at tw ⊢
      unfold readT
      dsimp only
      rw [tw, if_neg ha.2.1, if_pos (h3 a List.mem_cons_self), if_neg]
      intro z
      rcases z with z | ⟨z1, z2⟩
      · omega
      · rcases h4 with h4 | h4
        · omega
        · exact h4 r (by rw [z2])
  | sign =>
    refine ⟨59, [], rfl, by decide, by decide, ?_⟩
    unfold readT
    simp
theorem stop_row {s r : List Nat} {rs : List (List Nat)} (h : Stop s) (e : TL.spl [10] 0 [] s = r :: rs) : Stop r := by
  obtain ⟨r2, rs2, e1, _, e3⟩ := spl_acc s []
  rw [e] at e1
  cases e1
  match r, e3 with
  | [], _ => trivial
  | c :: r', e3 =>
    obtain ⟨s', rfl⟩ := e3 c r' rfl
    exact h
theorem lexP_word {x : KW} (hx : WdOk x) {s : List Nat} (hs : Stop s) (l c : Nat) : lexP (x.2 ++ s) l c = (⟨x.1, x.2, l, c⟩ :: (lexP s l (c + x.2.length)).1, (lexP s l (c + x.2.length)).2) := by
  obtain ⟨r, rs, e1, _, _⟩ := spl_acc s []
  have hr := stop_row hs e1
  obtain ⟨a, w, e, h32, h10, rd⟩ := readT_word hx hr l c
  have e2 := spl_word (w := x.2) (wd_ok hx).2.1 e1
  unfold lexP
  rw [e2, e1]
  simp only
  rw [e] at rd ⊢
  simp only [List.cons_append] at rd ⊢
  rw [lexR, if_neg (by omega), rd]
  simp only [List.length_cons, Nat.add_sub_cancel, List.drop_left]
  match lexR l r (c + (w.length + 1)) with
  | (ts, some c') => rfl
  | (ts, none) => rfl
end G
namespace G
open PySem L2 Cl
/-- the place behind a text -/
def lcP : List Nat → Nat × Nat → Nat × Nat
  | [], q => q
  | c :: r, q => lcP r (if c = 10 then (q.1 + 1, 0) else (q.1, q.2 + 1))
/-- chars without the mark -/
def mkF (l : List Nat) : Bool := l.all fun c => decide (c < 1114112) && !decide (c = 64)
/-- what the checks say of a text: with a mark between p and s -/
structure MkOk (p s : List Nat) (r : Str) : Prop where
  lp : p.length ≤ 1000
  ls : s.length ≤ 1000
  mp : mkF p = true
  ms : mkF s = true
  lx : ∃ ts, lexA 0 (TL.spl [10] 0 [] (p ++ s)) = (ts, none) ∧ ts.length < 900
  ok : (r = "" ∧ outOf (p ++ s) = .fine) ∨ (r ≠ "" ∧ ∃ n, outOf (p ++ s) = .chk ((lcP p (0, 0)).1, (lcP p (0, 0)).2, n, r))
def okF (p s : List Nat) (r : Str) : Bool := (match lexA 0 (TL.spl [10] 0 [] (p ++ s)) with
      | (ts, none) => decide (ts.length < 900)
      | _ => false) && (match outOf (p ++ s) with
      | .syn _ _ => false
      | .chk f => decide (r ≠ "") && decide (f.2.2.2 = r) && decide (f.1 = (lcP p (0, 0)).1) && decide (f.2.1 = (lcP p (0, 0)).2)
      | .fine => decide (r = ""))
def okB (p s : List Nat) (r : Str) : Bool := decide (p.length ≤ 1000) && decide (s.length ≤ 1000) && mkF p && mkF s && okF p s r
theorem okB_ok {p s : List Nat} {r : Str} (h : okB p s r = true) : MkOk p s r := by
  simp only [okB, okF, Bool.and_eq_true, decide_eq_true_eq] at h
  obtain ⟨⟨⟨⟨h1, h2⟩, h3⟩, h4⟩, h5, h6⟩ := h
  refine ⟨h1, h2, h3, h4, ?_, ?_⟩
  · split at h5
    · rename_i ts e
      exact ⟨ts, e, of_decide_eq_true h5⟩
    · cases h5
  · split at h6
    · cases h6
    · rename_i f e
      simp only [Bool.and_eq_true, decide_eq_true_eq] at h6
      refine .inr ⟨h6.1.1.1, f.2.2.1, ?_⟩
      rw [e, ← h6.1.2, ← h6.2, ← h6.1.1.2]
    · rename_i e
      exact .inl ⟨of_decide_eq_true h6, e⟩
theorem mkF_mem {l : List Nat} (h : mkF l = true) : okC l ∧ 64 ∉ l := by
  simp only [mkF, List.all_eq_true, Bool.and_eq_true, decide_eq_true_eq, Bool.not_eq_true', decide_eq_false_iff_not] at h
  exact ⟨fun c hc => (h c hc).1, fun hc => (h 64 hc).2 rfl⟩
theorem at_one {l : List Nat} {c i : Nat} : StrLaws.At (Sc l) ⟨#[c]⟩ (Sc l).length i ↔ l[i]? = some c := StrLaws.subAt_one (Sc l) c i
theorem idx_mark {p s : List Nat} (hp : 64 ∉ p) (st : List O) : gSIndex (.val (.str (Sc (p ++ 64 :: s)))) [.val (.str "@")] st = some (.ok (iV (p.length : Int)), st) := by
  have e64 : ("@" : Str) = ⟨#[64]⟩ := rfl
  have hat : ∀ i, StrLaws.At (Sc (p ++ 64 :: s)) "@" (Sc (p ++ 64 :: s)).length i ↔ (p ++ 64 :: s)[i]? = some 64 := fun i => by rw [e64]; exact at_one
  have h0 : (p ++ 64 :: s)[p.length]? = some 64 := by simp
  have hlt : ∀ k, k < p.length → (p ++ 64 :: s)[k]? ≠ some 64 := fun k hk z => by
    rw [List.getElem?_append_left hk] at z
    exact hp (List.mem_of_getElem? z)
  rcases StrLaws.occ_head (Sc (p ++ 64 :: s)) "@" 1 (Nat.le_refl 1) with ⟨_, hn⟩ | ⟨i, r, e, hi, hn⟩
  · exact absurd ((hat _).mpr h0) (hn _)
  · have : i = p.length := by
      rcases Nat.lt_trichotomy i p.length with h | h | h
      · exact absurd ((hat i).mp hi) (hlt i h)
      · exact h
      · exact absurd ((hat _).mpr h0) (hn _ h)
    show (match Builtin.Str.occurrences (Sc (p ++ 64 :: s)) "@" 0 (Sc (p ++ 64 :: s)).length 1 with | i :: _ => ok1 (.int (i : Nat)) st | [] => none) = _
    rw [e, this]
def del64 (l : List Nat) : List Nat := StrLaws.replL [64] [] l
theorem del_nil : del64 [] = [] := StrLaws.replL_nil
theorem del_cons (c : Nat) (l : List Nat) : del64 (c :: l) = if c = 64 then del64 l else c :: del64 l := by
  unfold del64
  by_cases h : c = 64
  · subst h
    rw [if_pos rfl, StrLaws.replL_hit (by simp) (by simp)]
    rfl
  · rw [if_neg h, StrLaws.replL_miss (by simpa using h)]
theorem del_free : ∀ {l : List Nat}, 64 ∉ l → del64 l = l
  | [], _ => del_nil
  | c :: l, h => by
    rw [del_cons, if_neg fun e => h (by rw [e]; exact List.mem_cons_self), del_free fun e => h (List.mem_cons_of_mem _ e)]
theorem del_mark : ∀ {p s : List Nat}, 64 ∉ p → 64 ∉ s → del64 (p ++ 64 :: s) = p ++ s
  | [], s, _, h => by rw [List.nil_append, del_cons, if_pos rfl, del_free h]; rfl
  | c :: p, s, hp, h => by
    rw [List.cons_append, del_cons, if_neg fun e => hp (by rw [e]; exact List.mem_cons_self), del_mark (fun e => hp (List.mem_cons_of_mem _ e)) h]
    rfl
theorem repl_mark {p s : List Nat} (hp : 64 ∉ p) (hs : 64 ∉ s) : Txt.replace (Sc (p ++ 64 :: s)) "@" "" = Sc (p ++ s) := by
  have h : (Txt.replace (Sc (p ++ 64 :: s)) "@" "").cps.toList = del64 (p ++ 64 :: s) := StrLaws.replace_list (by decide)
  rw [del_mark hp hs] at h
  rw [← h]; exact (TL.mk_tl _).symm
theorem lcP_app : ∀ (a b : List Nat) (q : Nat × Nat), lcP (a ++ b) q = lcP b (lcP a q)
  | [], b, q => rfl
  | c :: a, b, q => by rw [List.cons_append, lcP, lcP, lcP_app a b]
theorem lcP_line : ∀ (p : List Nat) (q : Nat × Nat), ((lcP p q).1 : Int) = (q.1 : Int) + PyProof.Rows.cnt 10 p
  | [], q => by rw [PyProof.Rows.cnt_nil]; simp [lcP]
  | c :: p, q => by
    rw [PyProof.Rows.cnt_cons, lcP, lcP_line p]
    by_cases h : c = 10
    · rw [if_pos h, if_pos h]; simp only; omega
    · rw [if_neg h, if_neg h]; simp only; omega
theorem lcP_col : ∀ (p : List Nat) (q : Nat × Nat), 10 ∉ p → (lcP p q).2 = q.2 + p.length
  | [], q, _ => rfl
  | c :: p, q, h => by
    rw [lcP, lcP_col p _ fun e => h (List.mem_cons_of_mem _ e), if_neg fun e => h (by rw [e]; exact List.mem_cons_self), List.length_cons]
    simp only; omega
theorem count_mark (p : List Nat) : Txt.count (Sc p) "\n" = ((lcP p (0, 0)).1 : Int) := by
  rw [lcP_line, show ("\n" : Str) = ⟨#[10]⟩ from rfl, PyProof.Rows.count_cnt]
  show _ = ((0 : Nat) : Int) + PyProof.Rows.cnt 10 p
  simp [Sc]
theorem col_mark (p : List Nat) : (p.length : Int) - Txt.rfind (Sc p) "\n" - 1 = ((lcP p (0, 0)).2 : Int) := by
  rw [show ("\n" : Str) = ⟨#[10]⟩ from rfl]
  rcases PyProof.Rows.rfind_whole (Sc p) ⟨#[10]⟩ with ⟨e, hn⟩ | ⟨i, e, hi, hn⟩
  · have : 10 ∉ p := fun h => by
      obtain ⟨j, hj⟩ := List.getElem?_of_mem h
      exact hn j (at_one.mpr hj)
    rw [e, lcP_col p _ this]
    simp only; omega
  · have h1 := at_one.mp hi
    have hlt := (List.getElem?_eq_some_iff.mp h1).1
    have hp : p = p.take i ++ 10 :: p.drop (i + 1) := by
      have : p[i] = 10 := (List.getElem?_eq_some_iff.mp h1).2
      rw [← this, List.getElem_cons_drop, List.take_append_drop]
    have hf : 10 ∉ p.drop (i + 1) := fun h => by
      obtain ⟨j, hj⟩ := List.getElem?_of_mem h
      rw [List.getElem?_drop] at hj
      exact hn (i + 1 + j) (by omega) (at_one.mpr hj)
    have : (lcP p (0, 0)).2 = (p.drop (i + 1)).length := by
      rw [hp, lcP_app, lcP, if_pos rfl, lcP_col _ _ hf]
      simp [List.length_drop]
      omega
    rw [e, this, List.length_drop]
    omega
/-- a text with one mark -/
def MkW (w : List Nat) (r : Str) : Prop := PyData.strOk r = true ∧ ∃ p s, w = p ++ 64 :: s ∧ MkOk p s r
def okW (w : List Nat) (r : Str) : Bool := decide (w = w.takeWhile (fun c => !decide (c = 64)) ++ 64 :: (w.dropWhile fun c => !decide (c = 64)).tail) && PyData.strOk r && okB (w.takeWhile fun c => !decide (c = 64)) (w.dropWhile fun c => !decide (c = 64)).tail r
theorem okW_ok {w : List Nat} {r : Str} (h : okW w r = true) : MkW w r := by
  simp only [okW, Bool.and_eq_true, decide_eq_true_eq] at h
  exact ⟨h.1.2, _, _, h.1.1, okB_ok h.2⟩
abbrev late2 : List Nat := cds "\nstart zz 99 " ++ cds "for 0; pause 90 91;"
abbrev head2 : List Nat := cds "round 9;\nopen 2;\nvalves a b c;\n"
theorem t0_ok : ∀ x ∈ ["0", "61", "99"], okW (cds "round @" ++ cds x ++ cds ";\nopen 0;\nvalves a;" ++ late2) "round" = true := by decide +kernel
theorem t1_ok : ∀ x ∈ ["0", "10", "99"], okW (cds "round 9; open @" ++ cds x ++ cds ";\nvalves a;" ++ late2) "open" = true := by decide +kernel
theorem t2_ok : ∀ x ∈ ["a", "b"], okW (cds "round 9; open 1; valves a b @" ++ cds x ++ cds " c;" ++ late2) "duplicate" = true := by decide +kernel
theorem t3_ok : ∀ x ∈ ["i", "j"], okW (cds "round 9; open 1; valves a b c d e f g h @" ++ cds x ++ cds ";" ++ late2) "valves" = true := by decide +kernel
theorem t5_ok : okW (head2 ++ cds "rank a @zz a;" ++ late2) "unknown" = true := by decide +kernel
theorem t7_ok : ∀ x ∈ ["0", "31", "99"], okW (head2 ++ cds "start a 8 for @" ++ cds x ++ cds ";" ++ late2) "length" = true := by decide +kernel
theorem t8_ok : okW (head2 ++ (List.replicate 20 (cds "start a 0 for 1; ")).flatten ++ cds "\n@start b 8 for 30;" ++ late2) "starts" = true := by decide +kernel
theorem t11_ok : ∀ x ∈ ["a", "b"], okW (head2 ++ cds "rank a b @" ++ cds x ++ cds " c;" ++ late2) "rank" = true := by decide +kernel
theorem t12_ok : okW (head2 ++ cds "rank a b;\n@rank b a;" ++ late2) "twice" = true := by decide +kernel
theorem t13_ok : okW (cds "round 9; open 1; valves a b c d e f g h @i;\nrank i;" ++ late2) "valves" = true := by decide +kernel
theorem t14_ok : okW (head2 ++ cds "rank b a; start c 0 for 1;\npause 0 0;" ++ cds "\n@rank a;" ++ late2) "twice" = true := by decide +kernel
theorem tF_ok : okW (cds "@" ++ cds "round 60; open 9; valves a b c d e f g h; rank h g f e d c b a;\n" ++ (List.replicate 20 (cds "start h 59 for 30; ")).flatten ++ (List.replicate 9 (cds "pause 0 59; pause 59 59; ")).flatten) "" = true := by decide +kernel
end G
namespace G
open PySem L2 Cl
/-- tokens with any gaps -/
abbrev It := List Nat × KW
def itT : List It → List Nat
  | [] => []
  | (g, x) :: r => g ++ (x.2 ++ itT r)
def itK : List It → Nat × Nat → List Tk
  | [], _ => []
  | (g, x) :: r, q => ⟨x.1, x.2, (lcP g q).1, (lcP g q).2⟩ :: itK r ((lcP g q).1, (lcP g q).2 + x.2.length)
def gapB (g : List Nat) : Bool := g.all fun c => decide (c = 32) || decide (c = 10)
def stopB : List Nat → Bool
  | [] => true
  | c :: _ => !isLet c && !isDig c
def nxB : List It → Bool
  | [] => true
  | (c :: _, _) :: _ => !isLet c && !isDig c
  | ([], x) :: _ => stopB x.2
def itsB : List It → Bool
  | [] => true
  | (g, _) :: r => gapB g && nxB r && itsB r
def AllW : List It → Prop
  | [] => True
  | y :: r => WdOk y.2 ∧ AllW r
theorem nx_stop : ∀ {r : List It}, AllW r → nxB r = true → Stop (itT r)
  | [], _, _ => trivial
  | (c :: g, x) :: r, _, h => by
    simp only [nxB, Bool.and_eq_true, Bool.not_eq_true'] at h
    exact h
  | ([], (k, w)) :: r, hw, h => by
    have hn := (wd_ok hw.1).2.2
    match w, hn, h with
    | c :: w, _, h =>
      simp only [nxB, stopB, Bool.and_eq_true, Bool.not_eq_true'] at h
      exact h
    | [], hn, _ =>
      have h1 := hw.1
      cases h1 with
      | name z => exact absurd z.1 (by decide)
      | key z => exact absurd z.2.2 (by decide)
      | num z => exact absurd z.1 (by decide)
theorem lexP_gap2 : ∀ (g s : List Nat) (l c : Nat), gapB g = true → lexP (g ++ s) l c = lexP s (lcP g (l, c)).1 (lcP g (l, c)).2
  | [], s, l, c, _ => rfl
  | a :: g, s, l, c, h => by
    unfold gapB at h
    rw [List.all_cons, Bool.and_eq_true, Bool.or_eq_true, decide_eq_true_eq, decide_eq_true_eq] at h
    rcases h.1 with rfl | rfl
    · rw [List.cons_append, lexP_sp, lexP_gap2 g s l (c + 1) h.2]; rfl
    · rw [List.cons_append, lexP_nl, lexP_gap2 g s (l + 1) 0 h.2]; rfl
theorem lex_its : ∀ {its : List It}, AllW its → itsB its = true → ∀ (l c : Nat), lexP (itT its) l c = (itK its (l, c), none)
  | [], _, _, l, c => lexP_nil l c
  | (g, x) :: r, hw, hb, l, c => by
    simp only [itsB, Bool.and_eq_true] at hb
    rw [itT, lexP_gap2 _ _ _ _ hb.1.1, lexP_word hw.1 (nx_stop hw.2 hb.1.2), lex_its hw.2 hb.2]
    rfl
theorem lexA_its {its : List It} (h : AllW its) (hb : itsB its = true) : lexA 0 (TL.spl [10] 0 [] (itT its)) = (itK its (0, 0), none) := by rw [lexA_P, lex_its h hb]
theorem mPause_at {ts : List Tk} {len : Nat} {q : PQ} {k a b s : Tk} (h0 : ts[q.i]? = some k) (h1 : ts[q.i + 1]? = some a) (h2 : ts[q.i + 2]? = some b) (h3 : ts[q.i + 3]? = some s) (kk : k.t = cds "pause") (ak : a.k = "number") (bk : b.k = "number") (sk : s.t = cds ";") :
    mPause ts len q = .ok ((), let q0 : PQ := { q with i := q.i + 4 }; let q1 := if len ≤ tval b.t then mFound "pause" b q0 else if tval b.t < tval a.t then mFound "pause" a q0 else q0; { q1 with pa := q1.pa ++ [(tval a.t, tval b.t)] }) := by
  simp only [mPause, mWord, mTake, pbind, h0, h1, h2, h3, kk, ak, bk, sk, if_true]
theorem mStart_at {ts : List Tk} {len : Nat} {q : PQ} {k n a f b s : Tk} (h0 : ts[q.i]? = some k) (h1 : ts[q.i + 1]? = some n) (h2 : ts[q.i + 2]? = some a) (h3 : ts[q.i + 3]? = some f) (h4 : ts[q.i + 4]? = some b) (h5 : ts[q.i + 5]? = some s)
    (kk : k.t = cds "start") (nk : n.k = "name") (ak : a.k = "number") (fk : f.t = cds "for") (bk : b.k = "number") (sk : s.t = cds ";") {j : Nat} {q0 : PQ} (hv : mValve n { q with i := q.i + 2 } = (j, q0)) (hi : q0.i = q.i + 2) :
    mStart ts len q = .ok ((), let q1 : PQ := { q0 with i := q.i + 6 }
      let q2 := if decide (len ≤ tval a.t) = true then mFound "tick" a q1 else q1
      let q3 := if (!(decide (1 ≤ tval b.t) && decide (tval b.t ≤ 30))) = true then mFound "length" b q2 else q2
      let q4 := if decide (q3.sts.length = 20) = true then mFound "starts" k q3 else q3
      { q4 with sts := q4.sts ++ [(tval a.t, j, tval b.t)] }) := by
  simp only [mStart, mWord, mTake, pbind, h0, h1, h2, h3, h4, h5, kk, nk, ak, fk, bk, sk, hv, hi, if_true]
abbrev headI : List It := [([], ("keyword", cds "round")), ([32], ("number", [57])), ([], sgn), ([10], ("keyword", cds "open")), ([32], ("number", [50])), ([], sgn), ([10], ("keyword", cds "valves")), ([32], ("name", [97])), ([32], ("name", [98])), ([32], ("name", [99])), ([], sgn)]
abbrev lateI : List It := [([10], ("keyword", cds "start")), ([32], ("name", [122, 122])), ([32], ("number", [57, 57])), ([32], ("keyword", cds "for")), ([32], ("number", [48])), ([], sgn), ([32], ("keyword", cds "pause")), ([32], ("number", [57, 48])), ([32], ("number", [57, 49])), ([], sgn)]
def its4 (w : List Nat) : List It := headI ++ (([10], ("keyword", cds "start")) :: ([32], ("name", [122, 122])) :: ([32], ("number", w)) :: ([32], ("keyword", cds "for")) :: ([32], ("number", [51, 49])) :: ([], sgn) :: lateI : List It)
def its6 (w : List Nat) : List It := headI ++ (([10], ("keyword", cds "start")) :: ([32], ("name", [97])) :: ([32], ("number", w)) :: ([32], ("keyword", cds "for")) :: ([32], ("number", [48])) :: ([], sgn) :: lateI : List It)
def its9 (v w : List Nat) : List It := headI ++ (([10], ("keyword", cds "pause")) :: ([32], ("number", v)) :: ([32], ("number", w)) :: ([], sgn) :: lateI : List It)
theorem wk (s : String) (h : decide (Sc (cds s) ∈ keyW) && (cds s).all isLet && decide (1 ≤ (cds s).length) = true := by decide +kernel) : WdOk ("keyword", cds s) := by
  simp only [Bool.and_eq_true, decide_eq_true_eq, List.all_eq_true] at h
  exact .key ⟨h.1.1, h.1.2, h.2⟩
theorem wn (w : List Nat) (h : decide (1 ≤ w.length) && decide (w.length ≤ 8) && w.all isLet && !decide (Sc w ∈ keyW) = true := by decide +kernel) : WdOk ("name", w) := by
  simp only [Bool.and_eq_true, decide_eq_true_eq, List.all_eq_true, Bool.not_eq_true', decide_eq_false_iff_not] at h
  exact .name ⟨h.1.1.1, h.1.1.2, h.1.2, h.2⟩
theorem wu (w : List Nat) (h : (match w with | [a] => isDig a | [a, b] => isDig a && isDig b && !decide (a = 48) | _ => false) = true := by decide +kernel) : WdOk ("number", w) := by
  refine .num ?_
  match w, h with
  | [a], h => exact ⟨by simp, by simp, by simpa using h, .inl rfl⟩
  | [a, b], h =>
    simp only [Bool.and_eq_true, Bool.not_eq_true', decide_eq_false_iff_not] at h
    exact ⟨by simp, by simp, by simpa using h.1, .inr fun r e => h.2 (List.cons.inj e).1⟩
theorem w4 {w : List Nat} (h : WdOk ("number", w)) : AllW (its4 w) := ⟨wk "round", wu _, .sign, wk "open", wu _, .sign, wk "valves", wn _, wn _, wn _, .sign, wk "start", wn _, h, wk "for", wu _, .sign, wk "start", wn _, wu _, wk "for", wu _, .sign, wk "pause", wu _, wu _, .sign, trivial⟩
theorem w6 {w : List Nat} (h : WdOk ("number", w)) : AllW (its6 w) := ⟨wk "round", wu _, .sign, wk "open", wu _, .sign, wk "valves", wn _, wn _, wn _, .sign, wk "start", wn _, h, wk "for", wu _, .sign, wk "start", wn _, wu _, wk "for", wu _, .sign, wk "pause", wu _, wu _, .sign, trivial⟩
theorem w9 {v w : List Nat} (hv : WdOk ("number", v)) (h : WdOk ("number", w)) : AllW (its9 v w) := ⟨wk "round", wu _, .sign, wk "open", wu _, .sign, wk "valves", wn _, wn _, wn _, .sign, wk "pause", hv, h, .sign, wk "start", wn _, wu _, wk "for", wu _, .sign, wk "pause", wu _, wu _, .sign, trivial⟩
theorem b4 (w : List Nat) : itsB (its4 w) = true := rfl
theorem b6 (w : List Nat) : itsB (its6 w) = true := rfl
theorem b9 (v w : List Nat) : itsB (its9 v w) = true := rfl
abbrev endT (n : Nat) : Tk := ⟨"end", [], n, 0⟩
def q1P : PQ := ⟨11, [], [[97], [98], [99]], [], [], none⟩
def fin2 (ts : List Tk) (n : Nat) (q : PQ) : PR (Nat × Nat) := pbind (mLoop ts 9 n q) fun _ q => .ok ((9, 2), q)
theorem all4 (w : List Nat) (n : Nat) : mAll (itK (its4 w) (0, 0) ++ [endT n]) = fin2 (itK (its4 w) (0, 0) ++ [endT n]) 28 q1P := by rfl
theorem all6 (w : List Nat) (n : Nat) : mAll (itK (its6 w) (0, 0) ++ [endT n]) = fin2 (itK (its6 w) (0, 0) ++ [endT n]) 28 q1P := by rfl
theorem all9 (v w : List Nat) (n : Nat) : mAll (itK (its9 v w) (0, 0) ++ [endT n]) = fin2 (itK (its9 v w) (0, 0) ++ [endT n]) 26 q1P := by rfl
end G
namespace G
open PySem L2 Cl
theorem st4 (w : List Nat) (n : Nat) : fin2 (itK (its4 w) (0, 0) ++ [endT n]) 28 q1P = pbind (pbind (mStart (itK (its4 w) (0, 0) ++ [endT n]) 9 q1P) fun _ q => mLoop (itK (its4 w) (0, 0) ++ [endT n]) 9 27 q) fun _ q => .ok ((9, 2), q) := by rfl
theorem st6 (w : List Nat) (n : Nat) : fin2 (itK (its6 w) (0, 0) ++ [endT n]) 28 q1P = pbind (pbind (mStart (itK (its6 w) (0, 0) ++ [endT n]) 9 q1P) fun _ q => mLoop (itK (its6 w) (0, 0) ++ [endT n]) 9 27 q) fun _ q => .ok ((9, 2), q) := by rfl
theorem st9 (v w : List Nat) (n : Nat) : fin2 (itK (its9 v w) (0, 0) ++ [endT n]) 26 q1P = pbind (pbind (mPause (itK (its9 v w) (0, 0) ++ [endT n]) 9 q1P) fun _ q => mLoop (itK (its9 v w) (0, 0) ++ [endT n]) 9 25 q) fun _ q => .ok ((9, 2), q) := by rfl
/-- the first fault of a parser's end -/
def firstF (r : PR (Nat × Nat)) : Option F4 := match r with
  | .ok (_, q) => (match q.fa with
    | [] => none
    | p :: ps => some (minF p ps))
  | .error _ => none
theorem out_of {its : List It} {f : F4} (h : AllW its) (hb : itsB its = true) (hf : ∀ n, firstF (mAll (itK its (0, 0) ++ [endT n])) = some f) : outOf (itT its) = .chk f := by
  have e := lexA_its h hb
  unfold outOf
  rw [e]
  simp only
  have hf := hf (TL.spl [10] 0 [] (itT its)).length
  unfold firstF at hf
  match em : mAll (itK its (0, 0) ++ [endT (TL.spl [10] 0 [] (itT its)).length]), hf with
  | .ok (a, q), hf =>
    simp only at hf ⊢
    match e2 : q.fa, hf with
    | p :: ps, hf =>
      simp only at hf ⊢
      rw [Option.some.inj hf]
/-- one or two digits -/
def Dg (w : List Nat) : Prop := (∃ a, w = [a] ∧ isDig a = true) ∨ ∃ a b, w = [a, b] ∧ isDig a = true ∧ isDig b = true ∧ a ≠ 48
theorem first4 {w : List Nat} (hd : Dg w) (h9 : 9 ≤ tval w) (n : Nat) : firstF (mAll (itK (its4 w) (0, 0) ++ [endT n])) = some ((3, 6, 0, "unknown") : F4) := by
  rw [all4, st4, mStart_at (q := q1P) (q0 := mFound "unknown" ⟨"name", [122, 122], 3, 6⟩ { q1P with i := 13 }) (j := 0) rfl rfl rfl rfl rfl rfl rfl rfl rfl rfl rfl rfl rfl rfl]
  simp only [decide_eq_true h9, if_true]
  rcases hd with ⟨a, rfl, _⟩ | ⟨a, b, rfl, _⟩
  · rfl
  · rfl
theorem first6 {w : List Nat} (hd : Dg w) (h9 : 9 ≤ tval w) (n : Nat) : firstF (mAll (itK (its6 w) (0, 0) ++ [endT n])) = some ((3, 8, 0, "tick") : F4) := by
  rw [all6, st6, mStart_at (q := q1P) (q0 := { q1P with i := 13 }) (j := 0) rfl rfl rfl rfl rfl rfl rfl rfl rfl rfl rfl rfl rfl rfl]
  simp only [decide_eq_true h9, if_true]
  rcases hd with ⟨a, rfl, _⟩ | ⟨a, b, rfl, _⟩
  · rfl
  · rfl
theorem first9 {v w : List Nat} (hv : Dg v) (hd : Dg w) (h9 : 9 ≤ tval w) (n : Nat) : firstF (mAll (itK (its9 v w) (0, 0) ++ [endT n])) = some ((3, 7 + v.length, 0, "pause") : F4) := by
  rw [all9, st9, mPause_at (q := q1P) rfl rfl rfl rfl rfl rfl rfl rfl]
  simp only [if_pos h9]
  rcases hv with ⟨a, rfl, _⟩ | ⟨a, b, rfl, _⟩ <;> rcases hd with ⟨a, rfl, _⟩ | ⟨a, b, rfl, _⟩ <;> rfl
theorem first10 {v : List Nat} (hv : Dg v) (h5 : 5 < tval v) (n : Nat) : firstF (mAll (itK (its9 v [53]) (0, 0) ++ [endT n])) = some ((3, 6, 0, "pause") : F4) := by
  rw [all9, st9, mPause_at (q := q1P) rfl rfl rfl rfl rfl rfl rfl rfl]
  simp only
  rw [if_neg (show ¬ (9 ≤ tval [53]) by decide), if_pos (show tval [53] < tval v from h5)]
  rcases hv with ⟨a, rfl, _⟩ | ⟨a, b, rfl, _⟩ <;> rfl
theorem num_dg {n : Nat} (h : n < 100) : Dg (TL.numL n) ∧ tval (TL.numL n) = n ∧ WdOk ("number", TL.numL n) := by
  have dg : ∀ d, d < 10 → isDig (48 + d) = true := by decide
  by_cases h1 : n < 10
  · rw [TL.numL_lt h1]
    have := dg n h1
    refine ⟨.inl ⟨_, rfl, this⟩, by simp [tval], wu _ ?_⟩
    simpa using this
  · have e : TL.numL n = [48 + n / 10, 48 + n % 10] := by
      rw [TL.numL_step (by omega), TL.numL_lt (by omega)]; rfl
    rw [e]
    have d1 := dg (n / 10) (by omega)
    have d2 := dg (n % 10) (by omega)
    have h48 : 48 + n / 10 ≠ 48 := by omega
    refine ⟨.inr ⟨_, _, rfl, d1, d2, h48⟩, ?_, wu _ ?_⟩
    · simp [tval]; omega
    · simp [d1, d2]; omega
theorem mkF_app (a b : List Nat) : mkF (a ++ b) = (mkF a && mkF b) := by simp [mkF]
theorem mkF_dg {w : List Nat} (h : Dg w) : mkF w = true := by
  have : ∀ a, isDig a = true → (decide (a < 1114112) && !decide (a = 64)) = true := fun a ha => by
    unfold isDig at ha
    simp only [Bool.and_eq_true, decide_eq_true_eq] at ha
    simp only [Bool.and_eq_true, Bool.not_eq_true', decide_eq_true_eq, decide_eq_false_iff_not]
    omega
  rcases h with ⟨a, rfl, ha⟩ | ⟨a, b, rfl, ha, hb, _⟩
  · simp [mkF, this a ha]
  · simp [mkF, this a ha, this b hb]
theorem dg_len {w : List Nat} (h : Dg w) : w.length ≤ 2 ∧ 10 ∉ w := by
  have : ∀ a, isDig a = true → a ≠ 10 := fun a ha z => by subst z; exact absurd ha (by decide)
  rcases h with ⟨a, rfl, ha⟩ | ⟨a, b, rfl, ha, hb, _⟩
  · exact ⟨by simp, by simp; exact fun e => this a ha e.symm⟩
  · exact ⟨by simp, by simp; exact ⟨fun e => this a ha e.symm, fun e => this b hb e.symm⟩⟩
theorem mk_its {its : List It} {p s : List Nat} {r : Str} {l c n : Nat} (h : AllW its) (hb : itsB its = true) (hl : its.length < 900) (e : p ++ s = itT its) (lp : p.length ≤ 1000) (ls : s.length ≤ 1000) (mp : mkF p = true) (ms : mkF s = true) (hr : r ≠ "")
    (hq : lcP p (0, 0) = (l, c)) (hf : ∀ m, firstF (mAll (itK its (0, 0) ++ [endT m])) = some (l, c, n, r)) : MkOk p s r := by
  have lk : ∀ (its : List It) (q : Nat × Nat), (itK its q).length = its.length := by
    intro its
    induction its with
    | nil => intro q; rfl
    | cons y r ih => intro q; obtain ⟨g, x⟩ := y; rw [itK, List.length_cons, List.length_cons, ih]
  refine ⟨lp, ls, mp, ms, ⟨itK its (0, 0), by rw [e]; exact lexA_its h hb, by rw [lk]; exact hl⟩, .inr ⟨hr, n, ?_⟩⟩
  rw [e, hq]
  exact out_of h hb hf
theorem k4_ok {n : Nat} (h1 : 9 ≤ n) (h2 : n < 100) : MkW (head2 ++ cds "start @zz " ++ TL.numL n ++ cds " for 31;" ++ late2) "unknown" := by
  obtain ⟨hd, hv, hw⟩ := num_dg h2
  generalize TL.numL n = w at hd hv hw
  refine ⟨strOk_lit _, head2 ++ cds "start ", cds "zz " ++ w ++ cds " for 31;" ++ late2, by simp [cds], mk_its (its := its4 w) (w4 hw) (b4 w) (Nat.le_of_ble_eq_true rfl) (by simp [its4, itT, cds]; decide +kernel) (by decide) ?_ (by decide +kernel) ?_ (by decide +kernel) (l := 3) (c := 6) (n := 0) (by decide +kernel) (first4 hd (by omega))⟩
  · have := (dg_len hd).1; simp [cds]; omega
  · simp only [mkF_app, mkF_dg hd, Bool.and_eq_true]; decide +kernel
theorem k6_ok {n : Nat} (h1 : 9 ≤ n) (h2 : n < 100) : MkW (head2 ++ cds "start a @" ++ TL.numL n ++ cds " for 0;" ++ late2) "tick" := by
  obtain ⟨hd, hv, hw⟩ := num_dg h2
  generalize TL.numL n = w at hd hv hw
  refine ⟨strOk_lit _, head2 ++ cds "start a ", w ++ cds " for 0;" ++ late2, by simp [cds], mk_its (its := its6 w) (w6 hw) (b6 w) (Nat.le_of_ble_eq_true rfl) (by simp [its6, itT, cds]; decide +kernel) (by decide) ?_ (by decide +kernel) ?_ (by decide +kernel) (l := 3) (c := 8) (n := 0) (by decide +kernel) (first6 hd (by omega))⟩
  · have := (dg_len hd).1; simp [cds]; omega
  · simp only [mkF_app, mkF_dg hd, Bool.and_eq_true]; decide +kernel
theorem k9_ok {a n : Nat} (h0 : a < 100) (h1 : 9 ≤ n) (h2 : n < 100) : MkW (head2 ++ cds "pause " ++ TL.numL a ++ cds " @" ++ TL.numL n ++ cds ";" ++ late2) "pause" := by
  obtain ⟨hd, hv, hw⟩ := num_dg h2
  obtain ⟨hd', hv', hw'⟩ := num_dg h0
  generalize TL.numL n = w at hd hv hw
  generalize TL.numL a = v at hd' hv' hw'
  have l1 := dg_len hd
  have l2 := dg_len hd'
  refine ⟨strOk_lit _, head2 ++ cds "pause " ++ v ++ cds " ", w ++ cds ";" ++ late2, by simp [cds], mk_its (its := its9 v w) (w9 hw' hw) (b9 v w) (Nat.le_of_ble_eq_true rfl) (by simp [its9, itT, cds]; decide +kernel) ?_ ?_ ?_ ?_ (by decide +kernel) (l := 3) (c := 7 + v.length) (n := 0) ?_ (first9 hd' hd (by omega))⟩
  · simp [cds]; omega
  · simp [cds]; omega
  · simp only [mkF_app, mkF_dg hd', Bool.and_eq_true]; decide +kernel
  · simp only [mkF_app, mkF_dg hd, Bool.and_eq_true]; decide +kernel
  · rw [List.append_assoc, List.append_assoc, lcP_app, show lcP head2 (0, 0) = (3, 0) by decide +kernel, show cds "pause " = [112, 97, 117, 115, 101, 32] by decide +kernel, show cds " " = [32] by decide +kernel]
    have hn : 10 ∉ [112, 97, 117, 115, 101, 32] ++ (v ++ [32]) := by simp [l2.2]
    refine Prod.ext ?_ ?_
    · have hc := PyProof.Rows.cnt_none 10 _ hn
      have := lcP_line ([112, 97, 117, 115, 101, 32] ++ (v ++ [32])) (3, 0)
      rw [hc] at this
      simp only at this ⊢
      omega
    · rw [lcP_col _ _ hn]; simp; omega
theorem k10_ok {n : Nat} (h1 : 6 ≤ n) (h2 : n < 100) : MkW (head2 ++ cds "pause @" ++ TL.numL n ++ cds " 5;" ++ late2) "pause" := by
  obtain ⟨hd, hv, hw⟩ := num_dg h2
  generalize TL.numL n = w at hd hv hw
  refine ⟨strOk_lit _, head2 ++ cds "pause ", w ++ cds " 5;" ++ late2, by simp [cds], mk_its (its := its9 w [53]) (w9 hw (wu _)) (b9 w _) (Nat.le_of_ble_eq_true rfl) (by simp [its9, itT, cds]; decide +kernel) (by decide) ?_ (by decide +kernel) ?_ (by decide +kernel) (l := 3) (c := 6) (n := 0) (by decide +kernel) (first10 hd (by omega))⟩
  · have := (dg_len hd).1; simp [cds]; omega
  · simp only [mkF_app, mkF_dg hd, Bool.and_eq_true]; decide +kernel
end G
namespace G
open PySem L2 Cl
/-- an expression that tells a text -/
def TxE (e : ME) (sl : Sl) (st st' : List O) (w : List Nat) (n : Nat) : Prop := e sl st = some (.ok (.val (strL w)), st') ∧ w.length ≤ n
section
variable {e f : ME} {sl : Sl} {st st1 st2 : List O} {a b : List Nat} {n m : Nat}
theorem TxE.cat (h1 : TxE e sl st st1 a n) (h2 : TxE f sl st1 st2 b m) (h : n + m ≤ 10000 := by decide) : TxE (eBin gAdd e f) sl st st2 (a ++ b) (n + m) :=
  ⟨by rw [bin_ok h1.1 h2.1]; exact gAdd_str _ _ _ (Nat.le_of_lt (sizes (by have := h1.2; have := h2.2; omega))), by rw [List.length_append]; exact Nat.add_le_add h1.2 h2.2⟩
theorem TxE.lit (s : String) (st : List O) (n : Nat) (h : (cds s).length ≤ n := by decide +kernel) : TxE (eC (.str (Str.ofString s))) sl st st (cds s) n := ⟨lit_ok s sl st, h⟩
theorem TxE.var {i : Nat} (h : sl[i]? = some (some (.val (strL a)))) (hn : a.length ≤ n) (st : List O) : TxE (eVar i) sl st st a n := ⟨var_val h, hn⟩
end
theorem gIx_strS {st : List O} {l : List Nat} {i c : Nat} (hx : l[i]? = some c) (hl : l.length ≤ 1000) : gIx (.val (.str (Sc l))) (iV i) st = some (.ok (.val (strL [c])), st) := by
  have e := Cl.atI_nat hx
  have hz : l.length ≤ sizeLine := Nat.le_of_lt (sizes (by omega))
  have e2 : (Sc l).cps.toList = l := by simp [Sc]
  unfold gIx
  simp only [Sc_len, e2, e, if_pos hz]
  rfl
/-- [..][below(d, n)] of texts -/
theorem menuS {sl : Sl} {d : List Int} {i : Nat} (h0 : sl[i]? = some (some (.obj 0))) (hd : GoodD d) {m : ME} (xs : List String) (hm : m sl [dO d] = some (.ok (.val (.lst (xs.map fun x => strL (cds x)))), [dO d])) (hx : 0 < xs.length) (hx2 : xs.length < 1000) (h3 : ∀ x ∈ xs, (cds x).length ≤ 8) {z : Int} (hz : z = ((xs.length : Nat) : Int) := by rfl) :
    ∃ x d2, x ∈ xs ∧ GoodD d2 ∧ TxE (eBin gIx m (eArgs (gCallO 2 F__law_below []) (aCons (eVar i) (aCons (eC (.int z)) aNil)))) sl [dO d] [dO d2] (cds x) 8 := by
  subst hz
  obtain ⟨j, d2, h1, h2, e⟩ := eBelowC (i := i) (s := [.lst []]) (k := 0) (d := d) (sl := sl) h0 (by simp) hd xs.length hx (by omega)
  refine ⟨xs[j], d2, List.getElem_mem h1, h2, ?_, h3 _ (List.getElem_mem h1)⟩
  rw [bin_ok (x := .val (.lst (xs.map fun x => strL (cds x)))) (st1 := [dO d]) hm e]
  exact gIx_lst (by rw [List.getElem?_map, List.getElem?_eq_getElem h1]; rfl)
/-- "..."[below(d, n)] -/
theorem menuC {sl : Sl} {d : List Int} {i : Nat} (h0 : sl[i]? = some (some (.obj 0))) (hd : GoodD d) (a b : String) (s : String) (ha : ∃ x, cds a = [x] ∧ (cds s)[0]? = some x) (hb : ∃ x, cds b = [x] ∧ (cds s)[1]? = some x) (hs : (cds s).length = 2) :
    ∃ x d2, x ∈ [a, b] ∧ GoodD d2 ∧ TxE (eBin gIx (eC (.str (Str.ofString s))) (eArgs (gCallO 2 F__law_below []) (aCons (eVar i) (aCons (eC (.int 2)) aNil)))) sl [dO d] [dO d2] (cds x) 8 := by
  obtain ⟨j, d2, h1, h2, e⟩ := eBelowC (i := i) (s := [.lst []]) (k := 0) (d := d) (sl := sl) h0 (by simp) hd 2 (by decide) (by decide) (z := 2)
  obtain ⟨x, hx1, hx2⟩ := ha
  obtain ⟨y, hy1, hy2⟩ := hb
  have go : ∀ {c : Nat}, (cds s)[j]? = some c → eBin gIx (eC (.str (Str.ofString s))) (eArgs (gCallO 2 F__law_below []) (aCons (eVar i) (aCons (eC (.int 2)) aNil))) sl [dO d] = some (.ok (.val (strL [c])), [dO d2]) := fun {c} hc => by
    rw [bin_ok (x := .val (.str (Sc (cds s)))) (st1 := [dO d]) (lit_ok s sl [dO d]) e]
    exact gIx_strS hc (by omega)
  match j, h1 with
  | 0, _ => exact ⟨a, d2, by simp, h2, by rw [hx1]; exact go hx2, by rw [hx1]; simp⟩
  | 1, _ => exact ⟨b, d2, by simp, h2, by rw [hy1]; exact go hy2, by rw [hy1]; simp⟩
theorem ifn2 {c : MT} {a : MS} {sl : Sl} {st st' : List O} (h : c sl st = some (.ok false, st')) : sIf c a sNext sl st = some (.nx, sl, st') := by rw [if_f h]; rfl
theorem seq_rt2 {a b : MS} {sl sl' : Sl} {st st' : List O} {x : S} (h : a sl st = some (.rt x, sl', st')) : sSeq a b sl st = some (.rt x, sl', st') := by simp [h]
theorem par_nx2 {i j : Nat} {a : MA} {sl : Sl} {st st' : List O} {x y : S} (h : a sl st = some (.ok [x, y], st')) : sPar i j a sl st = some (.nx, (sl.set i (some x)).set j (some y), st') := by simp [h]
section
variable {sl : Sl} {st : List O} {n : Nat}
theorem k2_miss {j : Nat} {z : Int} {e : ME} {r : MS} (h : sl[1]? = some (some (iV n))) (hz : z = ((j : Nat) : Int)) (hne : n ≠ j) : sSeq (sIf (tBin gEq (eVar 1) (eC (.int z))) (sRet e) sNext) r sl st = r sl st := by
  subst hz
  refine seq_nx (ifn2 (tbin ?_))
  rw [bin_ok (x := iV n) (st1 := st) (var_val h) (y := iV j) (st2 := st) rfl, gEq_int, decide_eq_false (by omega)]
theorem k2_hit {j : Nat} {z : Int} {e : ME} {r : MS} {st' : List O} {x : S} (h : sl[1]? = some (some (iV n))) (hz : z = ((j : Nat) : Int)) (he : n = j) (hx : e sl st = some (.ok x, st')) : sSeq (sIf (tBin gEq (eVar 1) (eC (.int z))) (sRet e) sNext) r sl st = some (.rt x, sl, st') := by
  subst hz
  subst he
  refine seq_rt2 ((if_t (tbin ?_)).trans (ret_ok hx))
  rw [bin_ok (x := iV n) (st1 := st) (var_val h) (y := iV n) (st2 := st) rfl, gEq_int, decide_eq_true rfl]
/-- a tuple of a text and its reason -/
theorem k2_ret {e : ME} {st' : List O} {w : List Nat} {m : Nat} {r : String} (h : TxE e sl st st' w m) : eArgs Cl.gTup (aCons e (aCons (eC (.str (Str.ofString r))) aNil)) sl st = some (.ok (.val (.tup [strL w, .str (Str.ofString r)])), st') := by
  rw [args2 h.1 (y := .val (.str (Str.ofString r))) (st2 := st') rfl]
  rfl
end
noncomputable def rest02 : MS :=
    (sSeq (sIf (tBin gEq (eVar 1) (eC (.int 0))) (sRet (eArgs gTup (aCons (eBin gAdd (eBin gAdd (eBin gAdd (eC (.str "round @")) (eBin gIx (eArgs gLst (aCons (eC (.str "0")) (aCons (eC (.str "61")) (aCons (eC (.str "99")) aNil)))) (eArgs (gCallO 2 F__law_below []) (aCons (eVar 0) (aCons (eC (.int 3)) aNil))))) (eC (.str ";\nopen 0;\nvalves a;"))) (eVar 2)) (aCons (eC (.str "round")) aNil)))) sNext)
    (sSeq (sIf (tBin gEq (eVar 1) (eC (.int 1))) (sRet (eArgs gTup (aCons (eBin gAdd (eBin gAdd (eBin gAdd (eC (.str "round 9; open @")) (eBin gIx (eArgs gLst (aCons (eC (.str "0")) (aCons (eC (.str "10")) (aCons (eC (.str "99")) aNil)))) (eArgs (gCallO 2 F__law_below []) (aCons (eVar 0) (aCons (eC (.int 3)) aNil))))) (eC (.str ";\nvalves a;"))) (eVar 2)) (aCons (eC (.str "open")) aNil)))) sNext)
    (sSeq (sIf (tBin gEq (eVar 1) (eC (.int 2))) (sRet (eArgs gTup (aCons (eBin gAdd (eBin gAdd (eBin gAdd (eC (.str "round 9; open 1; valves a b @")) (eBin gIx (eC (.str "ab")) (eArgs (gCallO 2 F__law_below []) (aCons (eVar 0) (aCons (eC (.int 2)) aNil))))) (eC (.str " c;"))) (eVar 2)) (aCons (eC (.str "duplicate")) aNil)))) sNext)
    (sSeq (sIf (tBin gEq (eVar 1) (eC (.int 3))) (sRet (eArgs gTup (aCons (eBin gAdd (eBin gAdd (eBin gAdd (eC (.str "round 9; open 1; valves a b c d e f g h @")) (eBin gIx (eC (.str "ij")) (eArgs (gCallO 2 F__law_below []) (aCons (eVar 0) (aCons (eC (.int 2)) aNil))))) (eC (.str ";"))) (eVar 2)) (aCons (eC (.str "valves")) aNil)))) sNext)
    (sSeq (sIf (tBin gEq (eVar 1) (eC (.int 4))) (sRet (eArgs gTup (aCons (eBin gAdd (eBin gAdd (eBin gAdd (eBin gAdd (eVar 3) (eC (.str "start @zz "))) (eVar 4)) (eC (.str " for 31;"))) (eVar 2)) (aCons (eC (.str "unknown")) aNil)))) sNext)
    (sSeq (sIf (tBin gEq (eVar 1) (eC (.int 5))) (sRet (eArgs gTup (aCons (eBin gAdd (eBin gAdd (eVar 3) (eC (.str "rank a @zz a;"))) (eVar 2)) (aCons (eC (.str "unknown")) aNil)))) sNext)
    (sSeq (sIf (tBin gEq (eVar 1) (eC (.int 6))) (sRet (eArgs gTup (aCons (eBin gAdd (eBin gAdd (eBin gAdd (eBin gAdd (eVar 3) (eC (.str "start a @"))) (eVar 4)) (eC (.str " for 0;"))) (eVar 2)) (aCons (eC (.str "tick")) aNil)))) sNext)
    (sSeq (sIf (tBin gEq (eVar 1) (eC (.int 7))) (sRet (eArgs gTup (aCons (eBin gAdd (eBin gAdd (eBin gAdd (eBin gAdd (eVar 3) (eC (.str "start a 8 for @"))) (eBin gIx (eArgs gLst (aCons (eC (.str "0")) (aCons (eC (.str "31")) (aCons (eC (.str "99")) aNil)))) (eArgs (gCallO 2 F__law_below []) (aCons (eVar 0) (aCons (eC (.int 3)) aNil))))) (eC (.str ";"))) (eVar 2)) (aCons (eC (.str "length")) aNil)))) sNext)
    (sSeq (sIf (tBin gEq (eVar 1) (eC (.int 8))) (sRet (eArgs gTup (aCons (eBin gAdd (eBin gAdd (eBin gAdd (eVar 3) (eBin gMulS (eC (.str "start a 0 for 1; ")) (eC (.int 20)))) (eC (.str "\n@start b 8 for 30;"))) (eVar 2)) (aCons (eC (.str "starts")) aNil)))) sNext)
    (sSeq (sIf (tBin gEq (eVar 1) (eC (.int 9))) (sRet (eArgs gTup (aCons (eBin gAdd (eBin gAdd (eBin gAdd (eBin gAdd (eBin gAdd (eBin gAdd (eVar 3) (eC (.str "pause "))) (eArgs (g1 gStr) (aCons (eArgs (gCallO 2 F__law_below []) (aCons (eVar 0) (aCons (eC (.int 99)) aNil))) aNil))) (eC (.str " @"))) (eVar 4)) (eC (.str ";"))) (eVar 2)) (aCons (eC (.str "pause")) aNil)))) sNext)
    (sSeq (sIf (tBin gEq (eVar 1) (eC (.int 10))) (sRet (eArgs gTup (aCons (eBin gAdd (eBin gAdd (eBin gAdd (eBin gAdd (eVar 3) (eC (.str "pause @"))) (eArgs (g1 gStr) (aCons (eBin gAdd (eC (.int 6)) (eArgs (gCallO 2 F__law_below []) (aCons (eVar 0) (aCons (eC (.int 90)) aNil)))) aNil))) (eC (.str " 5;"))) (eVar 2)) (aCons (eC (.str "pause")) aNil)))) sNext)
    (sSeq (sIf (tBin gEq (eVar 1) (eC (.int 11))) (sRet (eArgs gTup (aCons (eBin gAdd (eBin gAdd (eBin gAdd (eBin gAdd (eVar 3) (eC (.str "rank a b @"))) (eBin gIx (eC (.str "ab")) (eArgs (gCallO 2 F__law_below []) (aCons (eVar 0) (aCons (eC (.int 2)) aNil))))) (eC (.str " c;"))) (eVar 2)) (aCons (eC (.str "rank")) aNil)))) sNext)
    (sSeq (sIf (tBin gEq (eVar 1) (eC (.int 12))) (sRet (eArgs gTup (aCons (eBin gAdd (eBin gAdd (eVar 3) (eC (.str "rank a b;\n@rank b a;"))) (eVar 2)) (aCons (eC (.str "twice")) aNil)))) sNext)
    (sSeq (sIf (tBin gEq (eVar 1) (eC (.int 13))) (sRet (eArgs gTup (aCons (eBin gAdd (eC (.str "round 9; open 1; valves a b c d e f g h @i;\nrank i;")) (eVar 2)) (aCons (eC (.str "valves")) aNil)))) sNext)
    (sSeq (sIf (tBin gEq (eVar 1) (eC (.int 14))) (sRet (eArgs gTup (aCons (eBin gAdd (eBin gAdd (eBin gAdd (eVar 3) (eRepl "@" "" (eC (.str "@rank b a; start c 0 for 1;\npause 0 0;")))) (eC (.str "\n@rank a;"))) (eVar 2)) (aCons (eC (.str "twice")) aNil)))) sNext)
    (sSeq (sSet 5 (eC (.str "round 60; open 9; valves a b c d e f g h; rank h g f e d c b a;\n")))
    (sRet (eArgs gTup (aCons (eBin gAdd (eBin gAdd (eBin gAdd (eC (.str "@")) (eVar 5)) (eBin gMulS (eC (.str "start h 59 for 30; ")) (eC (.int 20)))) (eBin gMulS (eC (.str "pause 0 59; pause 59 59; ")) (eC (.int 9)))) (aCons (eC (.str "")) aNil))))))))))))))))))))
theorem rest02_eq : b__law_faulty = (sSeq (sPar 1 2 (aCons (eArgs (gCallO 2 F__law_below []) (aCons (eVar 0) (aCons (eC (.int 18)) aNil))) (aCons (eC (.str "\nstart zz 99 for 0; pause 90 91;")) aNil))) (sSeq (sPar 3 4 (aCons (eC (.str "round 9;\nopen 2;\nvalves a b c;\n")) (aCons (eArgs (g1 gStr) (aCons (eBin gAdd (eC (.int 9)) (eArgs (gCallO 2 F__law_below []) (aCons (eVar 0) (aCons (eC (.int 90)) aNil)))) aNil)) aNil))) rest02)) := rfl
theorem rep_list (l : List Nat) : ∀ (n : Nat) (acc : Array Nat), ((List.replicate n l.toArray).foldl (· ++ ·) acc).toList = acc.toList ++ (List.replicate n l).flatten
  | 0, acc => by simp
  | n + 1, acc => by
    rw [List.replicate_succ, List.foldl_cons, rep_list l n, List.replicate_succ, List.flatten_cons]
    simp
theorem rep2 (s : String) (k : Nat) (h1 : 2 ≤ k ∧ k ≤ 100) (h2 : 1 ≤ (cds s).length ∧ (cds s).length * k ≤ 1000) {sl : Sl} {st : List O} {n : Nat} (hn : (cds s).length * k ≤ n) {z : Int} (hz : z = (k : Int) := by rfl) : TxE (eBin gMulS (eC (.str (Str.ofString s))) (eC (.int z))) sl st st (List.replicate k (cds s)).flatten n := by
  subst hz
  have e : repS (Sc (cds s)) k = Sc (List.replicate k (cds s)).flatten := by
    have := rep_list (cds s) k #[]
    refine (TL.mk_tl _).symm.trans ?_
    exact congrArg (fun l : List Nat => Sc l) (this.trans (List.nil_append _))
  have hs : (cds s).length * k ≤ sizeLine := Nat.le_of_lt (sizes (by omega))
  refine ⟨?_, by rw [List.length_flatten, List.map_replicate, List.sum_replicate_nat]; rw [Nat.mul_comm]; exact hn⟩
  rw [bin_ok (x := .val (.str (Sc (cds s)))) (st1 := st) (lit_ok s sl st) (y := iV k) (st2 := st) rfl]
  show (if 2 ≤ (k : Int) ∧ (k : Int) ≤ 1000 ∧ 1 ≤ (Sc (cds s)).length ∧ (Sc (cds s)).length * (k : Int).toNat ≤ sizeLine then ok1 (.str (repS (Sc (cds s)) (k : Int).toNat)) st else none) = _
  rw [Int.toNat_natCast, if_pos ⟨by omega, by omega, by rw [Sc_len]; exact h2.1, by rw [Sc_len]; exact hs⟩, e]
  rfl
theorem repl14 {sl : Sl} {st : List O} : TxE (eRepl "@" "" (eC (.str "@rank b a; start c 0 for 1;\npause 0 0;"))) sl st st (cds "rank b a; start c 0 for 1;\npause 0 0;") 60 := by
  refine ⟨?_, by decide +kernel⟩
  have e : Str.ofString "@rank b a; start c 0 for 1;\npause 0 0;" = Sc ([] ++ 64 :: cds "rank b a; start c 0 for 1;\npause 0 0;") := Sc_of _
  show (match (eC (.str "@rank b a; start c 0 for 1;\npause 0 0;") : ME) sl st with | _ => gRepl "@" "" (.val (.str (Str.ofString "@rank b a; start c 0 for 1;\npause 0 0;"))) st) = _
  rw [e]
  show (if (Sc ([] ++ 64 :: cds "rank b a; start c 0 for 1;\npause 0 0;")).length + ((Sc ([] ++ 64 :: cds "rank b a; start c 0 for 1;\npause 0 0;")).length + 1) * (Str.ofString "").length ≤ 16777216 then ok1 (.str (Txt.replace (Sc ([] ++ 64 :: cds "rank b a; start c 0 for 1;\npause 0 0;")) "@" "")) st else none) = _
  rw [if_pos (by decide +kernel), repl_mark (by simp) (by decide +kernel)]
  rfl
theorem below9 {sl : Sl} {d : List Int} {i : Nat} (h0 : sl[i]? = some (some (.obj 0))) (hd : GoodD d) : ∃ a d2, a < 99 ∧ GoodD d2 ∧ TxE (eArgs (g1 gStr) (aCons (eArgs (gCallO 2 F__law_below []) (aCons (eVar i) (aCons (eC (.int 99)) aNil))) aNil)) sl [dO d] [dO d2] (TL.numL a) 2 := by
  obtain ⟨a, d2, h1, h2, e⟩ := eBelowC (i := i) (s := [.lst []]) (k := 0) (d := d) (sl := sl) h0 (by simp) hd 99 (by decide) (by decide) (z := 99)
  refine ⟨a, d2, h1, h2, ?_, numL2 (by omega)⟩
  have e' : eArgs (gCallO 2 F__law_below []) (aCons (eVar i) (aCons (eC (.int 99)) aNil)) sl [dO d] = some (.ok (iV a), [dO d2]) := e
  rw [args1 e']; exact gStr_nat a (by omega) _
theorem below10 {sl : Sl} {d : List Int} {i : Nat} (h0 : sl[i]? = some (some (.obj 0))) (hd : GoodD d) : ∃ a d2, a < 90 ∧ GoodD d2 ∧ TxE (eArgs (g1 gStr) (aCons (eBin gAdd (eC (.int 6)) (eArgs (gCallO 2 F__law_below []) (aCons (eVar i) (aCons (eC (.int 90)) aNil)))) aNil)) sl [dO d] [dO d2] (TL.numL (6 + a)) 2 := by
  obtain ⟨a, d2, h1, h2, e⟩ := eBelowC (i := i) (s := [.lst []]) (k := 0) (d := d) (sl := sl) h0 (by simp) hd 90 (by decide) (by decide) (z := 90)
  refine ⟨a, d2, h1, h2, ?_, numL2 (by omega)⟩
  have : eBin gAdd (eC (.int 6)) (eArgs (gCallO 2 F__law_below []) (aCons (eVar i) (aCons (eC (.int 90)) aNil))) sl [dO d] = some (.ok (iV (6 + a : Nat)), [dO d2]) := by
    rw [bin_ok (x := iV 6) (st1 := [dO d]) rfl (y := iV a) (st2 := [dO d2]) e, gAdd_int]; simp
  rw [args1 this]; exact gStr_nat (6 + a) (by omega) _
/-- what _law_faulty gives -/
theorem faulty_eq {d : List Int} (hd : GoodD d) : ∃ w r d', MkW w r ∧ GoodD d' ∧ F__law_faulty [.obj 0] [dO d] = some (.ok (.val (.tup [strL w, .str r])), [dO d']) := by
  obtain ⟨k, d1, hk, hd1, b1⟩ := eBelowC (i := 0) (s := [.lst []]) (k := 0) (d := d) (sl := [some (.obj 0), none, none, none, none, none]) rfl (by simp) hd 18 (by decide) (by decide) (z := 18)
  have b1' : eArgs (gCallO 2 F__law_below []) (aCons (eVar 0) (aCons (eC (.int 18)) aNil)) [some (.obj 0), none, none, none, none, none] [dO d] = some (.ok (iV k), [dO d1]) := b1
  obtain ⟨sl1, hs1⟩ : ∃ sl1 : Sl, sl1 = [some (.obj 0), some (iV k), some (.val (strL late2)), none, none, none] := ⟨_, rfl⟩
  obtain ⟨n, d2, hn, hd2, b2⟩ := eBelowC (i := 0) (s := [.lst []]) (k := 0) (d := d1) (sl := sl1) (by rw [hs1]; rfl) (by simp) hd1 90 (by decide) (by decide) (z := 90)
  have b2' : eArgs (gCallO 2 F__law_below []) (aCons (eVar 0) (aCons (eC (.int 90)) aNil)) sl1 [dO d1] = some (.ok (iV n), [dO d2]) := b2
  have p2 : eArgs (g1 gStr) (aCons (eBin gAdd (eC (.int 9)) (eArgs (gCallO 2 F__law_below []) (aCons (eVar 0) (aCons (eC (.int 90)) aNil)))) aNil) sl1 [dO d1] = some (.ok (.val (strL (TL.numL (9 + n)))), [dO d2]) := by
    have : eBin gAdd (eC (.int 9)) (eArgs (gCallO 2 F__law_below []) (aCons (eVar 0) (aCons (eC (.int 90)) aNil))) sl1 [dO d1] = some (.ok (iV (9 + n : Nat)), [dO d2]) := by
      rw [bin_ok (x := iV 9) (st1 := [dO d1]) rfl b2', gAdd_int]; simp
    rw [args1 this]; exact gStr_nat (9 + n) (by omega) _
  obtain ⟨sl, hs⟩ : ∃ sl : Sl, sl = [some (.obj 0), some (iV k), some (.val (strL late2)), some (.val (strL head2)), some (.val (strL (TL.numL (9 + n)))), none] := ⟨_, rfl⟩
  have h0 : sl[0]? = some (some (.obj 0)) := by rw [hs]; rfl
  have h1 : sl[1]? = some (some (iV k)) := by rw [hs]; rfl
  have L2 := fun st => TxE.var (n := 100) (i := 2) (sl := sl) (a := late2) (by rw [hs]; rfl) (by decide +kernel) st
  have H3 := fun st => TxE.var (n := 100) (i := 3) (sl := sl) (a := head2) (by rw [hs]; rfl) (by decide +kernel) st
  have B4 := fun st => TxE.var (n := 2) (i := 4) (sl := sl) (a := TL.numL (9 + n)) (by rw [hs]; rfl) (numL2 (by omega)) st
  have e0 : ∀ (w : List Nat) (r : String) (d' : List Int), (∃ sl', rest02 sl [dO d2] = some (.rt (.val (.tup [strL w, .str (Str.ofString r)])), sl', [dO d'])) → F__law_faulty [.obj 0] [dO d] = some (.ok (.val (.tup [strL w, .str (Str.ofString r)])), [dO d']) := fun w r d' hr => by
    have c1 : sPar 1 2 (aCons (eArgs (gCallO 2 F__law_below []) (aCons (eVar 0) (aCons (eC (.int 18)) aNil))) (aCons (eC (.str "\nstart zz 99 for 0; pause 90 91;")) aNil)) [some (.obj 0), none, none, none, none, none] [dO d] = some (.nx, sl1, [dO d1]) := by
      rw [par_nx2 (x := iV k) (y := .val (strL late2)) (st' := [dO d1])]
      · rw [hs1]; rfl
      · have := lit_ok "\nstart zz 99 for 0; pause 90 91;" [some (.obj 0), none, none, none, none, none] [dO d1]
        rw [show cds "\nstart zz 99 for 0; pause 90 91;" = late2 from by decide +kernel] at this
        simp only [aCons, aNil, M.bind, b1', this, M.pure]
    have c2 : sPar 3 4 (aCons (eC (.str "round 9;\nopen 2;\nvalves a b c;\n")) (aCons (eArgs (g1 gStr) (aCons (eBin gAdd (eC (.int 9)) (eArgs (gCallO 2 F__law_below []) (aCons (eVar 0) (aCons (eC (.int 90)) aNil)))) aNil)) aNil)) sl1 [dO d1] = some (.nx, sl, [dO d2]) := by
      rw [par_nx2 (x := .val (strL head2)) (y := .val (strL (TL.numL (9 + n)))) (st' := [dO d2])]
      · rw [hs1, hs]; rfl
      · have := lit_ok "round 9;\nopen 2;\nvalves a b c;\n" sl1 [dO d1]
        simp only [aCons, aNil, M.bind, this, p2, M.pure]
    unfold F__law_faulty asK
    rw [show mkSl 6 [S.obj 0] = [some (.obj 0), none, none, none, none, none] from rfl]
    rw [rest02_eq, seq_nx c1, seq_nx c2]
    obtain ⟨sl', e⟩ := hr
    rw [e]
    rfl
  by_cases c0 : k = 0
  · obtain ⟨x, d3, hx, hd3, mx⟩ := menuS (i := 0) h0 hd2 (m := eArgs Cl.gLst (aCons (eC (.str "0")) (aCons (eC (.str "61")) (aCons (eC (.str "99")) aNil)))) ["0","61","99"] (by simp [Cl.gLst, lit_L]) (by decide) (by decide) (by decide +kernel)
    have tx := (TxE.cat (TxE.cat (TxE.cat (TxE.lit "round @" _ 60) mx) (TxE.lit ";\nopen 0;\nvalves a;" _ 60)) (L2 _))
    refine ⟨_, _, d3, okW_ok (t0_ok x hx), hd3, e0 _ _ _ ⟨sl, ?_⟩⟩
    unfold rest02
    exact k2_hit h1 (j := 0) rfl c0 (k2_ret (r := "round") tx)
  by_cases c1 : k = 1
  · obtain ⟨x, d3, hx, hd3, mx⟩ := menuS (i := 0) h0 hd2 (m := eArgs Cl.gLst (aCons (eC (.str "0")) (aCons (eC (.str "10")) (aCons (eC (.str "99")) aNil)))) ["0","10","99"] (by simp [Cl.gLst, lit_L]) (by decide) (by decide) (by decide +kernel)
    have tx := (TxE.cat (TxE.cat (TxE.cat (TxE.lit "round 9; open @" _ 60) mx) (TxE.lit ";\nvalves a;" _ 60)) (L2 _))
    refine ⟨_, _, d3, okW_ok (t1_ok x hx), hd3, e0 _ _ _ ⟨sl, ?_⟩⟩
    unfold rest02
    exact (k2_miss h1 (j := 0) rfl c0).trans (k2_hit h1 (j := 1) rfl c1 (k2_ret (r := "open") tx))
  by_cases c2 : k = 2
  · obtain ⟨x, d3, hx, hd3, mx⟩ := menuC (i := 0) h0 hd2 "a" "b" "ab" ⟨_, rfl, rfl⟩ ⟨_, rfl, rfl⟩ rfl
    have tx := (TxE.cat (TxE.cat (TxE.cat (TxE.lit "round 9; open 1; valves a b @" _ 60) mx) (TxE.lit " c;" _ 60)) (L2 _))
    refine ⟨_, _, d3, okW_ok (t2_ok x hx), hd3, e0 _ _ _ ⟨sl, ?_⟩⟩
    unfold rest02
    exact (k2_miss h1 (j := 0) rfl c0).trans ((k2_miss h1 (j := 1) rfl c1).trans (k2_hit h1 (j := 2) rfl c2 (k2_ret (r := "duplicate") tx)))
  by_cases c3 : k = 3
  · obtain ⟨x, d3, hx, hd3, mx⟩ := menuC (i := 0) h0 hd2 "i" "j" "ij" ⟨_, rfl, rfl⟩ ⟨_, rfl, rfl⟩ rfl
    have tx := (TxE.cat (TxE.cat (TxE.cat (TxE.lit "round 9; open 1; valves a b c d e f g h @" _ 60) mx) (TxE.lit ";" _ 60)) (L2 _))
    refine ⟨_, _, d3, okW_ok (t3_ok x hx), hd3, e0 _ _ _ ⟨sl, ?_⟩⟩
    unfold rest02
    exact (k2_miss h1 (j := 0) rfl c0).trans ((k2_miss h1 (j := 1) rfl c1).trans ((k2_miss h1 (j := 2) rfl c2).trans (k2_hit h1 (j := 3) rfl c3 (k2_ret (r := "valves") tx))))
  by_cases c4 : k = 4
  · have tx := (TxE.cat (TxE.cat (TxE.cat (TxE.cat (H3 [dO d2]) (TxE.lit "start @zz " _ 60)) (B4 _)) (TxE.lit " for 31;" _ 60)) (L2 _))
    refine ⟨_, _, d2, k4_ok (n := 9 + n) (by omega) (by omega), hd2, e0 _ _ _ ⟨sl, ?_⟩⟩
    unfold rest02
    exact (k2_miss h1 (j := 0) rfl c0).trans ((k2_miss h1 (j := 1) rfl c1).trans ((k2_miss h1 (j := 2) rfl c2).trans ((k2_miss h1 (j := 3) rfl c3).trans (k2_hit h1 (j := 4) rfl c4 (k2_ret (r := "unknown") tx)))))
  by_cases c5 : k = 5
  · have tx := (TxE.cat (TxE.cat (H3 [dO d2]) (TxE.lit "rank a @zz a;" _ 60)) (L2 _))
    refine ⟨_, _, d2, okW_ok t5_ok, hd2, e0 _ _ _ ⟨sl, ?_⟩⟩
    unfold rest02
    exact (k2_miss h1 (j := 0) rfl c0).trans ((k2_miss h1 (j := 1) rfl c1).trans ((k2_miss h1 (j := 2) rfl c2).trans ((k2_miss h1 (j := 3) rfl c3).trans ((k2_miss h1 (j := 4) rfl c4).trans (k2_hit h1 (j := 5) rfl c5 (k2_ret (r := "unknown") tx))))))
  by_cases c6 : k = 6
  · have tx := (TxE.cat (TxE.cat (TxE.cat (TxE.cat (H3 [dO d2]) (TxE.lit "start a @" _ 60)) (B4 _)) (TxE.lit " for 0;" _ 60)) (L2 _))
    refine ⟨_, _, d2, k6_ok (n := 9 + n) (by omega) (by omega), hd2, e0 _ _ _ ⟨sl, ?_⟩⟩
    unfold rest02
    exact (k2_miss h1 (j := 0) rfl c0).trans ((k2_miss h1 (j := 1) rfl c1).trans ((k2_miss h1 (j := 2) rfl c2).trans ((k2_miss h1 (j := 3) rfl c3).trans ((k2_miss h1 (j := 4) rfl c4).trans ((k2_miss h1 (j := 5) rfl c5).trans (k2_hit h1 (j := 6) rfl c6 (k2_ret (r := "tick") tx)))))))
  by_cases c7 : k = 7
  · obtain ⟨x, d3, hx, hd3, mx⟩ := menuS (i := 0) h0 hd2 (m := eArgs Cl.gLst (aCons (eC (.str "0")) (aCons (eC (.str "31")) (aCons (eC (.str "99")) aNil)))) ["0","31","99"] (by simp [Cl.gLst, lit_L]) (by decide) (by decide) (by decide +kernel)
    have tx := (TxE.cat (TxE.cat (TxE.cat (TxE.cat (H3 [dO d2]) (TxE.lit "start a 8 for @" _ 60)) mx) (TxE.lit ";" _ 60)) (L2 _))
    refine ⟨_, _, d3, okW_ok (t7_ok x hx), hd3, e0 _ _ _ ⟨sl, ?_⟩⟩
    unfold rest02
    exact (k2_miss h1 (j := 0) rfl c0).trans ((k2_miss h1 (j := 1) rfl c1).trans ((k2_miss h1 (j := 2) rfl c2).trans ((k2_miss h1 (j := 3) rfl c3).trans ((k2_miss h1 (j := 4) rfl c4).trans ((k2_miss h1 (j := 5) rfl c5).trans ((k2_miss h1 (j := 6) rfl c6).trans (k2_hit h1 (j := 7) rfl c7 (k2_ret (r := "length") tx))))))))
  by_cases c8 : k = 8
  · have tx := (TxE.cat (TxE.cat (TxE.cat (H3 [dO d2]) (rep2 "start a 0 for 1; " 20 (by decide +kernel) (by decide +kernel) (n := 500) (by decide +kernel))) (TxE.lit "\n@start b 8 for 30;" _ 60)) (L2 _))
    refine ⟨_, _, d2, okW_ok t8_ok, hd2, e0 _ _ _ ⟨sl, ?_⟩⟩
    unfold rest02
    exact (k2_miss h1 (j := 0) rfl c0).trans ((k2_miss h1 (j := 1) rfl c1).trans ((k2_miss h1 (j := 2) rfl c2).trans ((k2_miss h1 (j := 3) rfl c3).trans ((k2_miss h1 (j := 4) rfl c4).trans ((k2_miss h1 (j := 5) rfl c5).trans ((k2_miss h1 (j := 6) rfl c6).trans ((k2_miss h1 (j := 7) rfl c7).trans (k2_hit h1 (j := 8) rfl c8 (k2_ret (r := "starts") tx)))))))))
  by_cases c9 : k = 9
  · obtain ⟨a, d3, ha, hd3, px⟩ := below9 (i := 0) h0 hd2
    have tx := (TxE.cat (TxE.cat (TxE.cat (TxE.cat (TxE.cat (TxE.cat (H3 [dO d2]) (TxE.lit "pause " _ 60)) px) (TxE.lit " @" _ 60)) (B4 _)) (TxE.lit ";" _ 60)) (L2 _))
    refine ⟨_, _, d3, k9_ok (a := a) (n := 9 + n) (by omega) (by omega) (by omega), hd3, e0 _ _ _ ⟨sl, ?_⟩⟩
    unfold rest02
    exact (k2_miss h1 (j := 0) rfl c0).trans ((k2_miss h1 (j := 1) rfl c1).trans ((k2_miss h1 (j := 2) rfl c2).trans ((k2_miss h1 (j := 3) rfl c3).trans ((k2_miss h1 (j := 4) rfl c4).trans ((k2_miss h1 (j := 5) rfl c5).trans ((k2_miss h1 (j := 6) rfl c6).trans ((k2_miss h1 (j := 7) rfl c7).trans ((k2_miss h1 (j := 8) rfl c8).trans (k2_hit h1 (j := 9) rfl c9 (k2_ret (r := "pause") tx))))))))))
  by_cases c10 : k = 10
  · obtain ⟨a, d3, ha, hd3, px⟩ := below10 (i := 0) h0 hd2
    have tx := (TxE.cat (TxE.cat (TxE.cat (TxE.cat (H3 [dO d2]) (TxE.lit "pause @" _ 60)) px) (TxE.lit " 5;" _ 60)) (L2 _))
    refine ⟨_, _, d3, k10_ok (n := 6 + a) (by omega) (by omega), hd3, e0 _ _ _ ⟨sl, ?_⟩⟩
    unfold rest02
    exact (k2_miss h1 (j := 0) rfl c0).trans ((k2_miss h1 (j := 1) rfl c1).trans ((k2_miss h1 (j := 2) rfl c2).trans ((k2_miss h1 (j := 3) rfl c3).trans ((k2_miss h1 (j := 4) rfl c4).trans ((k2_miss h1 (j := 5) rfl c5).trans ((k2_miss h1 (j := 6) rfl c6).trans ((k2_miss h1 (j := 7) rfl c7).trans ((k2_miss h1 (j := 8) rfl c8).trans ((k2_miss h1 (j := 9) rfl c9).trans (k2_hit h1 (j := 10) rfl c10 (k2_ret (r := "pause") tx)))))))))))
  by_cases c11 : k = 11
  · obtain ⟨x, d3, hx, hd3, mx⟩ := menuC (i := 0) h0 hd2 "a" "b" "ab" ⟨_, rfl, rfl⟩ ⟨_, rfl, rfl⟩ rfl
    have tx := (TxE.cat (TxE.cat (TxE.cat (TxE.cat (H3 [dO d2]) (TxE.lit "rank a b @" _ 60)) mx) (TxE.lit " c;" _ 60)) (L2 _))
    refine ⟨_, _, d3, okW_ok (t11_ok x hx), hd3, e0 _ _ _ ⟨sl, ?_⟩⟩
    unfold rest02
    exact (k2_miss h1 (j := 0) rfl c0).trans ((k2_miss h1 (j := 1) rfl c1).trans ((k2_miss h1 (j := 2) rfl c2).trans ((k2_miss h1 (j := 3) rfl c3).trans ((k2_miss h1 (j := 4) rfl c4).trans ((k2_miss h1 (j := 5) rfl c5).trans ((k2_miss h1 (j := 6) rfl c6).trans ((k2_miss h1 (j := 7) rfl c7).trans ((k2_miss h1 (j := 8) rfl c8).trans ((k2_miss h1 (j := 9) rfl c9).trans ((k2_miss h1 (j := 10) rfl c10).trans (k2_hit h1 (j := 11) rfl c11 (k2_ret (r := "rank") tx))))))))))))
  by_cases c12 : k = 12
  · have tx := (TxE.cat (TxE.cat (H3 [dO d2]) (TxE.lit "rank a b;\n@rank b a;" _ 60)) (L2 _))
    refine ⟨_, _, d2, okW_ok t12_ok, hd2, e0 _ _ _ ⟨sl, ?_⟩⟩
    unfold rest02
    exact (k2_miss h1 (j := 0) rfl c0).trans ((k2_miss h1 (j := 1) rfl c1).trans ((k2_miss h1 (j := 2) rfl c2).trans ((k2_miss h1 (j := 3) rfl c3).trans ((k2_miss h1 (j := 4) rfl c4).trans ((k2_miss h1 (j := 5) rfl c5).trans ((k2_miss h1 (j := 6) rfl c6).trans ((k2_miss h1 (j := 7) rfl c7).trans ((k2_miss h1 (j := 8) rfl c8).trans ((k2_miss h1 (j := 9) rfl c9).trans ((k2_miss h1 (j := 10) rfl c10).trans ((k2_miss h1 (j := 11) rfl c11).trans (k2_hit h1 (j := 12) rfl c12 (k2_ret (r := "twice") tx)))))))))))))
  by_cases c13 : k = 13
  · have tx := (TxE.cat (TxE.lit "round 9; open 1; valves a b c d e f g h @i;\nrank i;" [dO d2] 60) (L2 _))
    refine ⟨_, _, d2, okW_ok t13_ok, hd2, e0 _ _ _ ⟨sl, ?_⟩⟩
    unfold rest02
    exact (k2_miss h1 (j := 0) rfl c0).trans ((k2_miss h1 (j := 1) rfl c1).trans ((k2_miss h1 (j := 2) rfl c2).trans ((k2_miss h1 (j := 3) rfl c3).trans ((k2_miss h1 (j := 4) rfl c4).trans ((k2_miss h1 (j := 5) rfl c5).trans ((k2_miss h1 (j := 6) rfl c6).trans ((k2_miss h1 (j := 7) rfl c7).trans ((k2_miss h1 (j := 8) rfl c8).trans ((k2_miss h1 (j := 9) rfl c9).trans ((k2_miss h1 (j := 10) rfl c10).trans ((k2_miss h1 (j := 11) rfl c11).trans ((k2_miss h1 (j := 12) rfl c12).trans (k2_hit h1 (j := 13) rfl c13 (k2_ret (r := "valves") tx))))))))))))))
  by_cases c14 : k = 14
  · have tx := (TxE.cat (TxE.cat (TxE.cat (H3 [dO d2]) repl14) (TxE.lit "\n@rank a;" _ 60)) (L2 _))
    refine ⟨_, _, d2, okW_ok t14_ok, hd2, e0 _ _ _ ⟨sl, ?_⟩⟩
    unfold rest02
    exact (k2_miss h1 (j := 0) rfl c0).trans ((k2_miss h1 (j := 1) rfl c1).trans ((k2_miss h1 (j := 2) rfl c2).trans ((k2_miss h1 (j := 3) rfl c3).trans ((k2_miss h1 (j := 4) rfl c4).trans ((k2_miss h1 (j := 5) rfl c5).trans ((k2_miss h1 (j := 6) rfl c6).trans ((k2_miss h1 (j := 7) rfl c7).trans ((k2_miss h1 (j := 8) rfl c8).trans ((k2_miss h1 (j := 9) rfl c9).trans ((k2_miss h1 (j := 10) rfl c10).trans ((k2_miss h1 (j := 11) rfl c11).trans ((k2_miss h1 (j := 12) rfl c12).trans ((k2_miss h1 (j := 13) rfl c13).trans (k2_hit h1 (j := 14) rfl c14 (k2_ret (r := "twice") tx)))))))))))))))
  have tF := (TxE.cat (TxE.cat (TxE.cat (TxE.lit "@" [dO d2] 60) (TxE.var (n := 100) (i := 5) (sl := sl.set 5 (some (.val (strL (cds "round 60; open 9; valves a b c d e f g h; rank h g f e d c b a;\n"))))) (by rw [hs]; rfl) (by decide +kernel) [dO d2])) (rep2 "start h 59 for 30; " 20 (by decide +kernel) (by decide +kernel) (n := 500) (by decide +kernel))) (rep2 "pause 0 59; pause 59 59; " 9 (by decide +kernel) (by decide +kernel) (n := 500) (by decide +kernel)))
  refine ⟨_, _, d2, okW_ok tF_ok, hd2, e0 _ _ _ ⟨sl.set 5 (some (.val (strL (cds "round 60; open 9; valves a b c d e f g h; rank h g f e d c b a;\n")))), ?_⟩⟩
  unfold rest02
  exact (k2_miss h1 (j := 0) rfl c0).trans ((k2_miss h1 (j := 1) rfl c1).trans ((k2_miss h1 (j := 2) rfl c2).trans ((k2_miss h1 (j := 3) rfl c3).trans ((k2_miss h1 (j := 4) rfl c4).trans ((k2_miss h1 (j := 5) rfl c5).trans ((k2_miss h1 (j := 6) rfl c6).trans ((k2_miss h1 (j := 7) rfl c7).trans ((k2_miss h1 (j := 8) rfl c8).trans ((k2_miss h1 (j := 9) rfl c9).trans ((k2_miss h1 (j := 10) rfl c10).trans ((k2_miss h1 (j := 11) rfl c11).trans ((k2_miss h1 (j := 12) rfl c12).trans ((k2_miss h1 (j := 13) rfl c13).trans ((k2_miss h1 (j := 14) rfl c14).trans ((seq_nx (set_nx (lit_ok "round 60; open 9; valves a b c d e f g h; rank h g f e d c b a;\n" _ _))).trans (ret_ok (k2_ret (r := "") tF)))))))))))))))))
theorem k2_told (f : F4) : told (chkX f) = some (.tup [.str "check", .tup [.str f.2.2.2, .int f.1, .int f.2.1]]) := rfl
theorem k2_cut {z : List Nat} {n : Nat} (hn : n ≤ z.length) : cutS (Sc z) none (some ((n : Nat) : Int)) = Sc (z.take n) := by
  unfold cutS
  rw [HT.sIx_none, HT.sIx_nat, List.drop_zero, Nat.sub_zero, Sc_len, Sc_cps, Nat.min_eq_left hn]
  rfl
theorem law_turn2 {sl : Sl} {d : List Int} (h8 : sl.length = 8) (h1 : sl[1]? = some (some (.obj 0))) (hd : GoodD d) : ∃ sl' d', l1_law_k02 sl [dO d] = some (.nx, sl', [dO d']) ∧ sl'.length = 8 ∧ sl'[1]? = some (some (.obj 0)) ∧ GoodD d' := by
  obtain ⟨w, r, d1, ⟨hr, p, s, rfl, hm⟩, hd1, e0⟩ := faulty_eq hd
  obtain ⟨op, np⟩ := mkF_mem hm.mp
  obtain ⟨os, ns⟩ := mkF_mem hm.ms
  have lp := hm.lp
  have ls := hm.ls
  have a0 : eArgs (gCallO 1 F__law_faulty []) (aCons (eVar 1) aNil) sl [dO d] = some (.ok (.val (.tup [strL (p ++ 64 :: s), .str r])), [dO d1]) := callO1 (var_obj (i := 1) (l := d.map iV) h1 rfl) e0
  have g0 : tgTup 2 (tgCons (tgName 3) (tgCons (tgName 4) tgNil)) (.val (.tup [strL (p ++ 64 :: s), .str r])) sl [dO d1] = some ((sl.set 3 (some (.val (strL (p ++ 64 :: s))))).set 4 (some (.val (.str r))), [dO d1]) := by simp
  obtain ⟨sl1, hs1⟩ : ∃ sl1 : Sl, sl1 = (sl.set 3 (some (.val (strL (p ++ 64 :: s))))).set 4 (some (.val (.str r))) := ⟨_, rfl⟩
  have q3 : sl1[3]? = some (some (.val (strL (p ++ 64 :: s)))) := by rw [hs1]; simp [List.getElem?_set, h8]
  have z64 : (p ++ 64 :: s).length ≤ sizeLine := Nat.le_of_lt (sizes (by simp; omega))
  have a1 : eSl gSl (eVar 3) none (some (eBM "str" gSIndex (eVar 3) (aCons (eC (.str "@")) aNil))) sl1 [dO d1] = some (.ok (.val (strL p)), [dO d1]) := by
    have ix : eBM "str" gSIndex (eVar 3) (aCons (eC (.str "@")) aNil) sl1 [dO d1] = some (.ok (iV p.length), [dO d1]) := by
      rw [bm1 (var_val q3) rfl (y := .val (.str "@")) (st2 := [dO d1]) rfl]
      exact idx_mark np [dO d1]
    have hc := k2_cut (z := p ++ 64 :: s) (n := p.length) (by simp)
    rw [List.take_left] at hc
    unfold eSl
    simp only [M.bind, var_val q3, M.pure, oM, ix]
    simp only [strL, gSl, Sc_len, if_pos z64]
    exact congrArg (fun q => some (Except.ok (S.val (D.str q)), [dO d1])) hc
  obtain ⟨sl2, hs2⟩ : ∃ sl2 : Sl, sl2 = sl1.set 5 (some (.val (strL p))) := ⟨_, rfl⟩
  have q5 : sl2[5]? = some (some (.val (strL p))) := by rw [hs2, hs1]; simp [List.getElem?_set, h8]
  have a2 : eArgs Cl.gTup (aCons (eBM "str" gSCount (eVar 5) (aCons (eC (.str "\n")) aNil)) (aCons (eBin gSub (eBin gSub (eArgs (g1 gLen) (aCons (eVar 5) aNil)) (eBM "str" gSRfind (eVar 5) (aCons (eC (.str "\n")) aNil))) (eC (.int 1))) aNil)) sl2 [dO d1] = some (.ok (.val (.tup [.int (lcP p (0, 0)).1, .int (lcP p (0, 0)).2])), [dO d1]) := by
    have c1 : eBM "str" gSCount (eVar 5) (aCons (eC (.str "\n")) aNil) sl2 [dO d1] = some (.ok (iV (lcP p (0, 0)).1), [dO d1]) := by
      rw [bm1 (var_val q5) rfl (y := .val (.str "\n")) (st2 := [dO d1]) rfl, ← count_mark]
      rfl
    have c2 : eBM "str" gSRfind (eVar 5) (aCons (eC (.str "\n")) aNil) sl2 [dO d1] = some (.ok (iV (Txt.rfind (Sc p) "\n")), [dO d1]) := by
      rw [bm1 (var_val q5) rfl (y := .val (.str "\n")) (st2 := [dO d1]) rfl]
      rfl
    have c3 : eArgs (g1 gLen) (aCons (eVar 5) aNil) sl2 [dO d1] = some (.ok (iV p.length), [dO d1]) := by
      rw [args1 (var_val q5)]; exact gLen_str p _ (by omega)
    have c4 : eBin gSub (eBin gSub (eArgs (g1 gLen) (aCons (eVar 5) aNil)) (eBM "str" gSRfind (eVar 5) (aCons (eC (.str "\n")) aNil))) (eC (.int 1)) sl2 [dO d1] = some (.ok (iV (lcP p (0, 0)).2), [dO d1]) := by
      rw [bin_ok (x := iV ((p.length : Int) - Txt.rfind (Sc p) "\n")) (st1 := [dO d1]) (by rw [bin_ok c3 c2]; rfl) (y := iV 1) (st2 := [dO d1]) rfl, ← col_mark]
      rfl
    rw [args2 c1 c4]
    rfl
  obtain ⟨sl3, hs3⟩ : ∃ sl3 : Sl, sl3 = sl2.set 6 (some (.val (.tup [.int (lcP p (0, 0)).1, .int (lcP p (0, 0)).2]))) := ⟨_, rfl⟩
  have r3 : sl3[3]? = some (some (.val (strL (p ++ 64 :: s)))) := by rw [hs3, hs2]; simp [List.getElem?_set, q3]
  have r4 : sl3[4]? = some (some (.val (.str r))) := by rw [hs3, hs2, hs1]; simp [List.getElem?_set, h8]
  have r6 : sl3[6]? = some (some (.val (.tup [.int (lcP p (0, 0)).1, .int (lcP p (0, 0)).2]))) := by rw [hs3, hs2, hs1]; simp [List.getElem?_set, h8]
  have r8 : sl3.length = 8 := by rw [hs3, hs2, hs1]; simp [h8]
  have r1 : sl3[1]? = some (some (.obj 0)) := by rw [hs3, hs2, hs1]; simp [List.getElem?_set, h1]
  have a3 : eRepl "@" "" (eVar 3) sl3 [dO d1] = some (.ok (.val (strL (p ++ s))), [dO d1]) := by
    unfold eRepl
    simp only [M.bind, var_val r3]
    show (if (Sc (p ++ 64 :: s)).length + ((Sc (p ++ 64 :: s)).length + 1) * (Str.ofString "").length ≤ 16777216 then ok1 (.str (Txt.replace (Sc (p ++ 64 :: s)) "@" "")) [dO d1] else none) = _
    have e0 : (Str.ofString "").length = 0 := by decide +kernel
    rw [e0, Nat.mul_zero, Sc_len, if_pos (by simp; omega), repl_mark np ns]
    rfl
  obtain ⟨ts, lx, lt⟩ := hm.lx
  have fm := formatM (s := p ++ s) (fun c hc => (List.mem_append.mp hc).elim (op c) (os c)) (by simp; omega) (fun us hus => by rw [lx] at hus; cases hus; exact lt)
  have pre : ∀ (dd : D), eErr told m1_law_k02 sl3 [dO d1] = some (.ok (.val dd), [dO d1]) → (∀ sl4, sl4 = sl3.set 7 (some (.val dd)) → i1_law_k02 sl4 [dO d1] = some (.nx, sl4, [dO d1])) → ∃ sl' d', l1_law_k02 sl [dO d] = some (.nx, sl', [dO d']) ∧ sl'.length = 8 ∧ sl'[1]? = some (some (.obj 0)) ∧ GoodD d' := fun dd he hi => by
    refine ⟨sl3.set 7 (some (.val dd)), d1, ?_, by simp [r8], by simp [List.getElem?_set, r1], hd1⟩
    unfold l1_law_k02
    rw [seq_nx (asg_nx a0 g0), ← hs1, seq_nx (set_nx a1), ← hs2, seq_nx (set_nx a2), ← hs3, seq_nx (set_nx he)]
    exact hi _ rfl
  rcases hm.ok with ⟨rfl, ho⟩ | ⟨hne, n, ho⟩
  · rw [ho] at fm
    obtain ⟨v, fm⟩ := fm
    have he : eErr told m1_law_k02 sl3 [dO d1] = some (.ok (.val .non), [dO d1]) := by
      unfold eErr m1_law_k02
      rw [callP1 a3 fm]
    refine pre .non he fun sl4 e4 => ?_
    have s4 : sl4[4]? = some (some (.val (.str ""))) := by rw [e4]; simp [List.getElem?_set, r4]
    have s7 : sl4[7]? = some (some (.val .non)) := by rw [e4]; simp [List.getElem?_set, r8]
    have cd : tBin gNe (eVar 4) (eC (.str "")) sl4 [dO d1] = some (.ok false, [dO d1]) := by
      refine tbin ?_
      rw [bin_ok (var_val s4) (y := .val (.str "")) (st2 := [dO d1]) rfl, gNe_str _ (strOk_lit "") (strOk_lit "")]
      rfl
    unfold i1_law_k02
    refine ifn2 (tbin ?_)
    rw [bin_ok (var_val s7) ((eif_f' cd).trans (show eC .non sl4 [dO d1] = some (.ok (.val .non), [dO d1]) from rfl))]
    exact gEq_refl (a := .non) true rfl rfl (by simp [okP])
  · rw [ho] at fm
    simp only at fm
    have he : eErr told m1_law_k02 sl3 [dO d1] = some (.ok (.val (.tup [.str "check", .tup [.str r, .int (lcP p (0, 0)).1, .int (lcP p (0, 0)).2]])), [dO d1]) := by
      have : eArgs (gCallP 1 F_format_planM []) (aCons (eRepl "@" "" (eVar 3)) aNil) sl3 [dO d1] = some (.error (chkX ((lcP p (0, 0)).1, (lcP p (0, 0)).2, n, r)), [dO d1]) := by
        simp only [eArgs, aCons, aNil, M.bind, a3, M.pure]
        simp [gCallP, fm]
      unfold eErr m1_law_k02
      rw [this]
      simp [k2_told]
    refine pre _ he fun sl4 e4 => ?_
    have s4 : sl4[4]? = some (some (.val (.str r))) := by rw [e4]; simp [List.getElem?_set, r4]
    have s6 : sl4[6]? = some (some (.val (.tup [.int (lcP p (0, 0)).1, .int (lcP p (0, 0)).2]))) := by rw [e4]; simp [List.getElem?_set, r6]
    have s7 : sl4[7]? = some (some (.val (.tup [.str "check", .tup [.str r, .int (lcP p (0, 0)).1, .int (lcP p (0, 0)).2]]))) := by rw [e4]; simp [List.getElem?_set, r8]
    have cd : tBin gNe (eVar 4) (eC (.str "")) sl4 [dO d1] = some (.ok true, [dO d1]) := by
      refine tbin ?_
      rw [bin_ok (var_val s4) (y := .val (.str "")) (st2 := [dO d1]) rfl, gNe_str _ hr (strOk_lit ""), decide_eq_false hne]
      rfl
    have i0 : eBin gIx (eVar 6) (eC (.int 0)) sl4 [dO d1] = some (.ok (iV (lcP p (0, 0)).1), [dO d1]) := (bin_ok (var_val s6) (y := iV 0) (st2 := [dO d1]) rfl).trans (gIx_tup (i := 0) rfl)
    have i1 : eBin gIx (eVar 6) (eC (.int 1)) sl4 [dO d1] = some (.ok (iV (lcP p (0, 0)).2), [dO d1]) := (bin_ok (var_val s6) (y := iV 1) (st2 := [dO d1]) rfl).trans (gIx_tup (i := 1) rfl)
    have i3 : eArgs Cl.gTup (aCons (eVar 4) (aCons (eBin gIx (eVar 6) (eC (.int 0))) (aCons (eBin gIx (eVar 6) (eC (.int 1))) aNil))) sl4 [dO d1] = some (.ok (.val (.tup [.str r, .int (lcP p (0, 0)).1, .int (lcP p (0, 0)).2])), [dO d1]) := by
      simp only [eArgs, aCons, aNil, M.bind, var_val s4, i0, i1, M.pure]
      exact tup3 _ _ _ _
    unfold i1_law_k02
    refine ifn2 (tbin ?_)
    rw [bin_ok (var_val s7) ((eif_t' cd).trans ((args2 (x := .val (.str "check")) (st1 := [dO d1]) rfl i3).trans (tup2 _ _ _)))]
    exact gEq_refl (a := .tup [.str "check", .tup [.str r, .int (lcP p (0, 0)).1, .int (lcP p (0, 0)).2]]) true rfl rfl (by simp [okP, okPs, hr])
theorem law_loop2 : ∀ (js : List Nat) (sl : Sl) (d : List Int), sl.length = 8 → sl[1]? = some (some (.obj 0)) → GoodD d → ∃ sl' d', forL always (tgName 2) l1_law_k02 (js.map fun i : Nat => S.val (iD i)) sl [dO d] = some (.nx, sl', [dO d'])
  | [], sl, d, _, _, _ => ⟨sl, d, by rw [List.map_nil, for_nil trivial]⟩
  | j :: js, sl, d, h8, h1, hd => by
    obtain ⟨sl1, d1, e1, l1, o1, hd1⟩ := law_turn2 (sl := sl.set 2 (some (S.val (iD j)))) (by simp [h8]) (by simp [List.getElem?_set, h1]) hd
    obtain ⟨sl2, d2, e2⟩ := law_loop2 js sl1 d1 l1 o1 hd1
    exact ⟨sl2, d2, by rw [List.map_cons, for_cons (sl1 := sl.set 2 (some (S.val (iD j)))) (st1 := [dO d]) trivial rfl e1]; exact e2⟩
theorem law_true (ns : List Int) (hl : ns.length ≤ 63) (hz : ∀ z ∈ ns, Builtin.Int.intBits z ≤ 1048576) : F_law_k02 [.scr (ns.map D.int)] = some (.ok (.bl true)) := by
  obtain ⟨d0, hd0, e0⟩ := random_eq ns 2 (by decide) (by decide) hl
  generalize hx0 : (some (S.val (.scr (ns.map D.int)))) = x0
  have a0 : eArgs (gCallN 2 F__law_random []) (aCons (eVar 0) (aCons (eC (.int 2)) aNil)) [x0, none, none, none, none, none, none, none] [] = some (.ok (.obj 0), [dO d0]) := by
    rw [← hx0, args2 (var_val (i := 0) (v := .scr (ns.map D.int)) rfl) (y := iV 2) rfl]
    simp [e0]
    rfl
  obtain ⟨sl', d', e⟩ := law_loop2 (List.range 6) [x0, some (.obj 0), none, none, none, none, none, none] d0 rfl rfl hd0
  unfold F_law_k02 asP b_law_k02
  rw [show mkSl 8 ([.scr (ns.map D.int)].map S.val) = [x0, none, none, none, none, none, none, none] by rw [← hx0]; rfl]
  rw [seq_nx (set_nx a0)]
  simp only [List.set_cons_succ, List.set_cons_zero]
  unfold f1_law_k02
  rw [seq_nx (for_ok (range_of (k := 6) (st' := [dO d0]) rfl (by decide)) e), ret_ok rfl]
  simp [deepD]
end G
namespace G
open PySem L2 Cl
section
variable {P : Program} {w : World} {K : PySem.W.Frag} {mg : Str → Option Value} {base : Heap}
theorem sc_SyntaxFault_init : FnScope ["self", "line", "column"] ["self", "line", "column"] (defScope (inClass (top 3) 0)) := ⟨rfl, rfl, rfl, by decide +kernel, rfl, by decide +kernel, by decide +kernel⟩
theorem ok_SyntaxFault_init {f : Addr} {fd : FuncData} {dvs : List V} {kws : List (Str × V)} {Gd : Addr} (Fn : FunD K "__init__" "SyntaxFault.__init__" (defArgs (inClass (top 3) 0)) (defBody (inClass (top 3) 0)) (defScope (inClass (top 3) 0)) dvs kws f fd) (gG : mg "GardenError" = some (.ref Gd)) (TG : GInit K Gd) (T : ErrOk K "SyntaxFault" ["line", "column"]) : FnOk P w K mg base (L2N.CX P w) 1 f fd ["self", "line", "column"] (spX (He.ga K "SyntaxFault") 2 fun ws => backF ["line", "column"] ws) :=
  fn_X (fn := ["line", "column"]) Fn sc_SyntaxFault_init rfl (tSeq (tDrop (tVeI K (tCons (tVar 0) (tCons (tVar 1) (tCons (tVar 2) tNil))))) (tSeq (tOst K "line" (tVar 0) (tVar 1)) (tOst K "column" (tVar 0) (tVar 2)))) (fun cdv A outer s H E hr => pss_cons (ps_expr (pe_geinit gG TG (pa_cons (pv 0) (pa_cons (pv 1) (pa_cons (pv 2) pa_nil))))) (pss_cons (ps_ost (pv 0) (pv 1)) (pss_one (ps_ost (pv 0) (pv 2))))) fun a ws H Nd hl ha k => match ws, hl with | [_, _], _ => xinit2 T.o (T.n "line" (by simp)) (T.n "column" (by simp)) ha k
theorem sc_CheckFault_init : FnScope ["self", "reason", "line", "column"] ["self", "reason", "line", "column"] (defScope (inClass (top 4) 0)) := ⟨rfl, rfl, rfl, by decide +kernel, rfl, by decide +kernel, by decide +kernel⟩
theorem ok_CheckFault_init {f : Addr} {fd : FuncData} {dvs : List V} {kws : List (Str × V)} {Gd : Addr} (Fn : FunD K "__init__" "CheckFault.__init__" (defArgs (inClass (top 4) 0)) (defBody (inClass (top 4) 0)) (defScope (inClass (top 4) 0)) dvs kws f fd) (gG : mg "GardenError" = some (.ref Gd)) (TG : GInit K Gd) (T : ErrOk K "CheckFault" ["reason", "line", "column"]) : FnOk P w K mg base (L2N.CX P w) 1 f fd ["self", "reason", "line", "column"] (spX (He.ga K "CheckFault") 3 fun ws => backF ["reason", "line", "column"] ws) :=
  fn_X (fn := ["reason", "line", "column"]) Fn sc_CheckFault_init rfl (tSeq (tDrop (tVeI K (tCons (tVar 0) (tCons (tVar 1) (tCons (tVar 2) (tCons (tVar 3) tNil)))))) (tSeq (tOst K "reason" (tVar 0) (tVar 1)) (tSeq (tOst K "line" (tVar 0) (tVar 2)) (tOst K "column" (tVar 0) (tVar 3))))) (fun cdv A outer s H E hr => pss_cons (ps_expr (pe_geinit gG TG (pa_cons (pv 0) (pa_cons (pv 1) (pa_cons (pv 2) (pa_cons (pv 3) pa_nil)))))) (pss_cons (ps_ost (pv 0) (pv 1)) (pss_cons (ps_ost (pv 0) (pv 2)) (pss_one (ps_ost (pv 0) (pv 3)))))) fun a ws H Nd hl ha k => match ws, hl with | [_, _, _], _ => xinit3 T.o (T.n "reason" (by simp)) (T.n "line" (by simp)) (T.n "column" (by simp)) ha k
end
theorem all_ok {P : Program} {w : World} {K : PySem.W.Frag} {h : Heap} {mg : Str → Option Value} (X : K.In h) (G : h.Ns mainGlobals mg) (cX : SaysM faE fnE tsE prE tfE exE w h K) :
    ∃ fd : FuncData, (∀ (s : Shared) (u : Value), BindsTo s fd ⟨[u], []⟩ [("_law_script", u)]) ∧ ∀ base : Heap, (∀ q ∈ tfE.map (He.cT K), LamX.TabB base mg q.1 q.2) → FnOk P w K mg base (L2N.CX P w) 12 (He.ga K "law") fd ["_law_script"] (spP K mg 1 F_law_k02) := by
  have c := cX.x.t.d
  have cx := cX.x.more
  unfold exE at cx
  obtain ⟨lb, cx⟩ := He.ba cx
  obtain ⟨t_KEYWORDS, cx⟩ := He.ba cx
  obtain ⟨T_SyntaxFault, cx⟩ := He.ba cx
  have T_SyntaxFault := errB_ok T_SyntaxFault
  obtain ⟨T_CheckFault, cx⟩ := He.ba cx
  have T_CheckFault := errB_ok T_CheckFault
  obtain ⟨TG, cx⟩ := He.ba cx
  have TG := ginB_ok TG
  have EsB := cx
  have gG := He.glo_ok X G (c.facts (List.mem_of_getElem? (i := 0) (l := faE) rfl))
  obtain ⟨fd_SyntaxFault_init, D_SyntaxFault_init⟩ := c.def_ 0 (d := ⟨("SyntaxFault", some "__init__"), "__init__", "SyntaxFault.__init__", defArgs (inClass (top 3) 0), defBody (inClass (top 3) 0), defScope (inClass (top 3) 0), [], []⟩) rfl
  have D_SyntaxFault_init : FunD K "__init__" "SyntaxFault.__init__" (defArgs (inClass (top 3) 0)) (defBody (inClass (top 3) 0)) (defScope (inClass (top 3) 0)) [] [] (He.ma K (He.ga K "SyntaxFault") "__init__") fd_SyntaxFault_init := D_SyntaxFault_init
  have b_SyntaxFault_init_ : Binds K fd_SyntaxFault_init ["self", "line", "column"] [] := D_SyntaxFault_init.bindsN fun _ _ _ _ _ _ us hl => match us, hl with | [_, _, _], _ => rfl
  have o_SyntaxFault_init : ∀ base : Heap, (∀ q ∈ tfE.map (He.cT K), LamX.TabB base mg q.1 q.2) → FnOk P w K mg base (L2N.CX P w) 1 (He.ma K (He.ga K "SyntaxFault") "__init__") fd_SyntaxFault_init ["self", "line", "column"] (spX (He.ga K "SyntaxFault") 2 fun ws => backF ["line", "column"] ws) := fun base TB => ok_SyntaxFault_init D_SyntaxFault_init gG TG T_SyntaxFault
  obtain ⟨fd_CheckFault_init, D_CheckFault_init⟩ := c.def_ 1 (d := ⟨("CheckFault", some "__init__"), "__init__", "CheckFault.__init__", defArgs (inClass (top 4) 0), defBody (inClass (top 4) 0), defScope (inClass (top 4) 0), [], []⟩) rfl
  have D_CheckFault_init : FunD K "__init__" "CheckFault.__init__" (defArgs (inClass (top 4) 0)) (defBody (inClass (top 4) 0)) (defScope (inClass (top 4) 0)) [] [] (He.ma K (He.ga K "CheckFault") "__init__") fd_CheckFault_init := D_CheckFault_init
  have b_CheckFault_init_ : Binds K fd_CheckFault_init ["self", "reason", "line", "column"] [] := D_CheckFault_init.bindsN fun _ _ _ _ _ _ us hl => match us, hl with | [_, _, _, _], _ => rfl
  have o_CheckFault_init : ∀ base : Heap, (∀ q ∈ tfE.map (He.cT K), LamX.TabB base mg q.1 q.2) → FnOk P w K mg base (L2N.CX P w) 1 (He.ma K (He.ga K "CheckFault") "__init__") fd_CheckFault_init ["self", "reason", "line", "column"] (spX (He.ga K "CheckFault") 3 fun ws => backF ["reason", "line", "column"] ws) := fun base TB => ok_CheckFault_init D_CheckFault_init gG TG T_CheckFault
  obtain ⟨fd__law_error_of, D__law_error_of⟩ := c.def_ 2 (d := ⟨("_law_error_of", none), "_law_error_of", "_law_error_of", defArgs (top 51), defBody (top 51), defScope (top 51), [], []⟩) rfl
  have D__law_error_of : FunD K "_law_error_of" "_law_error_of" (defArgs (top 51)) (defBody (top 51)) (defScope (top 51)) [] [] (He.ga K "_law_error_of") fd__law_error_of := D__law_error_of
  have b__law_error_of_ : Binds K fd__law_error_of ["_law_call"] [] := D__law_error_of.bindsN fun _ _ _ _ _ _ us hl => match us, hl with | [_], _ => rfl
  have Em : ∀ n ∈ errL, mg n = some (.ref (He.ga K n)) := by
    intro n hn
    simp only [errL, List.mem_cons, List.not_mem_nil, or_false] at hn
    rcases hn with rfl | rfl | rfl | rfl | rfl | rfl | rfl | rfl | rfl | rfl | rfl | rfl | rfl | rfl
    · exact He.glo_ok X G (c.facts (List.mem_of_getElem? (i := 1) (l := faE) rfl))
    · exact He.glo_ok X G (c.facts (List.mem_of_getElem? (i := 2) (l := faE) rfl))
    · exact He.glo_ok X G (c.facts (List.mem_of_getElem? (i := 3) (l := faE) rfl))
    · exact He.glo_ok X G (c.facts (List.mem_of_getElem? (i := 4) (l := faE) rfl))
    · exact He.glo_ok X G (c.facts (List.mem_of_getElem? (i := 5) (l := faE) rfl))
    · exact He.glo_ok X G (c.facts (List.mem_of_getElem? (i := 6) (l := faE) rfl))
    · exact He.glo_ok X G (c.facts (List.mem_of_getElem? (i := 7) (l := faE) rfl))
    · exact He.glo_ok X G (c.facts (List.mem_of_getElem? (i := 8) (l := faE) rfl))
    · exact He.glo_ok X G (c.facts (List.mem_of_getElem? (i := 9) (l := faE) rfl))
    · exact He.glo_ok X G (c.facts (List.mem_of_getElem? (i := 10) (l := faE) rfl))
    · exact He.glo_ok X G (c.facts (List.mem_of_getElem? (i := 11) (l := faE) rfl))
    · exact He.glo_ok X G (c.facts (List.mem_of_getElem? (i := 12) (l := faE) rfl))
    · exact He.glo_ok X G (c.facts (List.mem_of_getElem? (i := 13) (l := faE) rfl))
    · exact He.glo_ok X G (c.facts (List.mem_of_getElem? (i := 14) (l := faE) rfl))
  have Es : ErrsOk K mg := ⟨He.glo_ok X G (c.facts (List.mem_of_getElem? (i := 0) (l := faE) rfl)), Em, EsB⟩
  have u0_z_isinstance : mg "isinstance" = none := e_free X G c (List.mem_of_getElem? (i := 15) (l := faE) rfl)
  have u1_z_ValueError : mg "ValueError" = none := e_free X G c (List.mem_of_getElem? (i := 16) (l := faE) rfl)
  have EO_ : ∀ base : Heap, (∀ q ∈ tfE.map (He.cT K), LamX.TabB base mg q.1 q.2) → ErrOfTOk P w K mg base "_law_error_of" told := fun base TB => eo__law_error_of D__law_error_of (He.glo_ok X G (c.facts (List.mem_of_getElem? (i := 17) (l := faE) rfl))) b__law_error_of_ Es u0_z_isinstance u1_z_ValueError
  obtain ⟨fd_Token_init, D_Token_init⟩ := c.def_ 3 (d := ⟨("Token", some "__init__"), "__init__", "Token.__init__", defArgs (inClass (top 30) 0), defBody (inClass (top 30) 0), defScope (inClass (top 30) 0), [], []⟩) rfl
  have D_Token_init : FunD K "__init__" "Token.__init__" (defArgs (inClass (top 30) 0)) (defBody (inClass (top 30) 0)) (defScope (inClass (top 30) 0)) [] [] (He.ma K (He.ga K "Token") "__init__") fd_Token_init := D_Token_init
  have b_Token_init_ : Binds K fd_Token_init ["self", "kind", "text", "line", "column"] [] := D_Token_init.bindsN fun _ _ _ _ _ _ us hl => match us, hl with | [_, _, _, _, _], _ => rfl
  have u2_c_Token_column : ClsF K mg ["Token"] "column" := (e_cls X G c (List.mem_of_getElem? (i := 18) (l := faE) rfl) (List.mem_of_getElem? (i := 19) (l := faE) rfl) (List.mem_of_getElem? (i := 20) (l := faE) rfl))
  have u3_c_Token_line : ClsF K mg ["Token"] "line" := (e_cls X G c (List.mem_of_getElem? (i := 18) (l := faE) rfl) (List.mem_of_getElem? (i := 19) (l := faE) rfl) (List.mem_of_getElem? (i := 21) (l := faE) rfl))
  have u4_c_Token_text : ClsF K mg ["Token"] "text" := (e_cls X G c (List.mem_of_getElem? (i := 18) (l := faE) rfl) (List.mem_of_getElem? (i := 19) (l := faE) rfl) (List.mem_of_getElem? (i := 22) (l := faE) rfl))
  have u5_c_Token_kind : ClsF K mg ["Token"] "kind" := (e_cls X G c (List.mem_of_getElem? (i := 18) (l := faE) rfl) (List.mem_of_getElem? (i := 19) (l := faE) rfl) (List.mem_of_getElem? (i := 23) (l := faE) rfl))
  have o_Token_init : ∀ base : Heap, (∀ q ∈ tfE.map (He.cT K), LamX.TabB base mg q.1 q.2) → FnOk P w K mg base (L2N.CX P w) 1 (He.ma K (He.ga K "Token") "__init__") fd_Token_init ["self", "kind", "text", "line", "column"] (spM K mg "Token" 5 F_Token_init) := fun base TB => ok_Token_init D_Token_init u2_c_Token_column u3_c_Token_line u4_c_Token_text u5_c_Token_kind
  obtain ⟨fd_run_end, D_run_end⟩ := c.def_ 4 (d := ⟨("run_end", none), "run_end", "run_end", defArgs (top 31), defBody (top 31), defScope (top 31), [], []⟩) rfl
  have D_run_end : FunD K "run_end" "run_end" (defArgs (top 31)) (defBody (top 31)) (defScope (top 31)) [] [] (He.ga K "run_end") fd_run_end := D_run_end
  have b_run_end_ : Binds K fd_run_end ["row", "start", "letters"] [] := D_run_end.bindsN fun _ _ _ _ _ _ us hl => match us, hl with | [_, _, _], _ => rfl
  have u6_z_len : mg "len" = none := e_free X G c (List.mem_of_getElem? (i := 24) (l := faE) rfl)
  have o_run_end : ∀ base : Heap, (∀ q ∈ tfE.map (He.cT K), LamX.TabB base mg q.1 q.2) → FnOk P w K mg base (L2N.CX P w) 1 (He.ga K "run_end") fd_run_end ["row", "start", "letters"] (spP K mg 3 F_run_end) := fun base TB => ok_run_end D_run_end u6_z_len
  obtain ⟨fd_read_token, D_read_token⟩ := c.def_ 5 (d := ⟨("read_token", none), "read_token", "read_token", defArgs (top 32), defBody (top 32), defScope (top 32), [], []⟩) rfl
  have D_read_token : FunD K "read_token" "read_token" (defArgs (top 32)) (defBody (top 32)) (defScope (top 32)) [] [] (He.ga K "read_token") fd_read_token := D_read_token
  have b_read_token_ : Binds K fd_read_token ["row", "line", "column"] [] := D_read_token.bindsN fun _ _ _ _ _ _ us hl => match us, hl with | [_, _, _], _ => rfl
  have u7_g_NAME : GStr mg "NAME" "name" := e_str X G c (List.mem_of_getElem? (i := 25) (l := faE) rfl)
  have u8_K_Token : ∀ base : Heap, (∀ q ∈ tfE.map (He.cT K), LamX.TabB base mg q.1 q.2) → MakeMOk P w K mg base "Token" 1 5 [] F_Token_init := fun base TB => e_makeM X G c (List.mem_of_getElem? (i := 18) (l := faE) rfl) (List.mem_of_getElem? (i := 26) (l := faE) rfl) (b_Token_init_) (o_Token_init base TB)
  have u9_g_MAX_LETTERS : GInt mg "MAX_LETTERS" 8 := e_int X G c (List.mem_of_getElem? (i := 27) (l := faE) rfl)
  have u10_R_SyntaxFault : ∀ base : Heap, (∀ q ∈ tfE.map (He.cT K), LamX.TabB base mg q.1 q.2) → RaiseXOk P w K mg base "SyntaxFault" ["line", "column"] 1 := fun base TB => e_raise X G c (List.mem_of_getElem? (i := 11) (l := faE) rfl) T_SyntaxFault (b_SyntaxFault_init_) (o_SyntaxFault_init base TB)
  have u11_g_KEYWORDS : GTupS K mg "KEYWORDS" ["round", "open", "valves", "start", "for", "pause", "rank"] := e_tup X G c (List.mem_of_getElem? (i := 28) (l := faE) rfl) (He.ba t_KEYWORDS).1 (He.ba t_KEYWORDS).2
  have u12_g_KEYWORD : GStr mg "KEYWORD" "keyword" := e_str X G c (List.mem_of_getElem? (i := 29) (l := faE) rfl)
  have u13_g_LETTERS : GStr mg "LETTERS" "abcdefghijklmnopqrstuvwxyz" := e_str X G c (List.mem_of_getElem? (i := 30) (l := faE) rfl)
  have u14_C_run_end : ∀ base : Heap, (∀ q ∈ tfE.map (He.cT K), LamX.TabB base mg q.1 q.2) → CallPOk P w K mg base "run_end" 1 3 [] F_run_end := fun base TB => e_callP X G c D_run_end (List.mem_of_getElem? (i := 31) (l := faE) rfl) (b_run_end_) (o_run_end base TB)
  have u15_g_DIGITS : GStr mg "DIGITS" "0123456789" := e_str X G c (List.mem_of_getElem? (i := 32) (l := faE) rfl)
  have u16_g_NUMBER : GStr mg "NUMBER" "number" := e_str X G c (List.mem_of_getElem? (i := 33) (l := faE) rfl)
  have u17_g_MAX_DIGITS : GInt mg "MAX_DIGITS" 2 := e_int X G c (List.mem_of_getElem? (i := 34) (l := faE) rfl)
  have u18_g_END_SIGN : GStr mg "END_SIGN" ";" := e_str X G c (List.mem_of_getElem? (i := 35) (l := faE) rfl)
  have u19_g_SIGN : GStr mg "SIGN" "sign" := e_str X G c (List.mem_of_getElem? (i := 36) (l := faE) rfl)
  have o_read_token : ∀ base : Heap, (∀ q ∈ tfE.map (He.cT K), LamX.TabB base mg q.1 q.2) → FnOk P w K mg base (L2N.CX P w) 3 (He.ga K "read_token") fd_read_token ["row", "line", "column"] (spP K mg 3 F_read_token) := fun base TB => ok_read_token D_read_token u7_g_NAME (u8_K_Token base TB) u6_z_len u9_g_MAX_LETTERS (u10_R_SyntaxFault base TB) u11_g_KEYWORDS u12_g_KEYWORD u13_g_LETTERS (u14_C_run_end base TB) u15_g_DIGITS u16_g_NUMBER u17_g_MAX_DIGITS u18_g_END_SIGN u19_g_SIGN
  obtain ⟨fd_tokenize, D_tokenize⟩ := c.def_ 6 (d := ⟨("tokenize", none), "tokenize", "tokenize", defArgs (top 33), defBody (top 33), defScope (top 33), [], []⟩) rfl
  have D_tokenize : FunD K "tokenize" "tokenize" (defArgs (top 33)) (defBody (top 33)) (defScope (top 33)) [] [] (He.ga K "tokenize") fd_tokenize := D_tokenize
  have b_tokenize_ : Binds K fd_tokenize ["source"] [] := D_tokenize.bindsN fun _ _ _ _ _ _ us hl => match us, hl with | [_], _ => rfl
  have u20_g_END : GStr mg "END" "end" := e_str X G c (List.mem_of_getElem? (i := 37) (l := faE) rfl)
  have u21_z_enumerate : mg "enumerate" = none := e_free X G c (List.mem_of_getElem? (i := 38) (l := faE) rfl)
  have u22_g_SPACES : GStr mg "SPACES" " \n" := e_str X G c (List.mem_of_getElem? (i := 39) (l := faE) rfl)
  have u23_C_read_token : ∀ base : Heap, (∀ q ∈ tfE.map (He.cT K), LamX.TabB base mg q.1 q.2) → CallPOk P w K mg base "read_token" 3 3 [] F_read_token := fun base TB => e_callP X G c D_read_token (List.mem_of_getElem? (i := 40) (l := faE) rfl) (b_read_token_) (o_read_token base TB)
  have o_tokenize : ∀ base : Heap, (∀ q ∈ tfE.map (He.cT K), LamX.TabB base mg q.1 q.2) → FnOk P w K mg base (L2N.CX P w) 4 (He.ga K "tokenize") fd_tokenize ["source"] (spP K mg 1 F_tokenize) := fun base TB => ok_tokenize D_tokenize u6_z_len u20_g_END (u8_K_Token base TB) u21_z_enumerate u22_g_SPACES u4_c_Token_text (u23_C_read_token base TB)
  obtain ⟨fd_Parser_init, D_Parser_init⟩ := c.def_ 7 (d := ⟨("Parser", some "__init__"), "__init__", "Parser.__init__", defArgs (inClass (top 41) 0), defBody (inClass (top 41) 0), defScope (inClass (top 41) 0), [], []⟩) rfl
  have D_Parser_init : FunD K "__init__" "Parser.__init__" (defArgs (inClass (top 41) 0)) (defBody (inClass (top 41) 0)) (defScope (inClass (top 41) 0)) [] [] (He.ma K (He.ga K "Parser") "__init__") fd_Parser_init := D_Parser_init
  have b_Parser_init_ : Binds K fd_Parser_init ["self", "tokens"] [] := D_Parser_init.bindsN fun _ _ _ _ _ _ us hl => match us, hl with | [_, _], _ => rfl
  have u24_c_Parser_ranks : ClsF K mg ["Parser"] "ranks" := (e_cls X G c (List.mem_of_getElem? (i := 41) (l := faE) rfl) (List.mem_of_getElem? (i := 42) (l := faE) rfl) (List.mem_of_getElem? (i := 43) (l := faE) rfl))
  have u25_c_Parser_pauses : ClsF K mg ["Parser"] "pauses" := (e_cls X G c (List.mem_of_getElem? (i := 41) (l := faE) rfl) (List.mem_of_getElem? (i := 42) (l := faE) rfl) (List.mem_of_getElem? (i := 44) (l := faE) rfl))
  have u26_c_Parser_starts : ClsF K mg ["Parser"] "starts" := (e_cls X G c (List.mem_of_getElem? (i := 41) (l := faE) rfl) (List.mem_of_getElem? (i := 42) (l := faE) rfl) (List.mem_of_getElem? (i := 45) (l := faE) rfl))
  have u27_c_Parser_names : ClsF K mg ["Parser"] "names" := (e_cls X G c (List.mem_of_getElem? (i := 41) (l := faE) rfl) (List.mem_of_getElem? (i := 42) (l := faE) rfl) (List.mem_of_getElem? (i := 46) (l := faE) rfl))
  have u28_c_Parser_faults : ClsF K mg ["Parser"] "faults" := (e_cls X G c (List.mem_of_getElem? (i := 41) (l := faE) rfl) (List.mem_of_getElem? (i := 42) (l := faE) rfl) (List.mem_of_getElem? (i := 47) (l := faE) rfl))
  have u29_c_Parser_at : ClsF K mg ["Parser"] "at" := (e_cls X G c (List.mem_of_getElem? (i := 41) (l := faE) rfl) (List.mem_of_getElem? (i := 42) (l := faE) rfl) (List.mem_of_getElem? (i := 48) (l := faE) rfl))
  have u30_c_Parser_tokens : ClsF K mg ["Parser"] "tokens" := (e_cls X G c (List.mem_of_getElem? (i := 41) (l := faE) rfl) (List.mem_of_getElem? (i := 42) (l := faE) rfl) (List.mem_of_getElem? (i := 49) (l := faE) rfl))
  have o_Parser_init : ∀ base : Heap, (∀ q ∈ tfE.map (He.cT K), LamX.TabB base mg q.1 q.2) → FnOk P w K mg base (L2N.CX P w) 1 (He.ma K (He.ga K "Parser") "__init__") fd_Parser_init ["self", "tokens"] (spO K mg 2 F_Parser_init) := fun base TB => ok_Parser_init D_Parser_init u24_c_Parser_ranks u25_c_Parser_pauses u26_c_Parser_starts u27_c_Parser_names u28_c_Parser_faults u29_c_Parser_at u30_c_Parser_tokens
  obtain ⟨fd_Plan_init, D_Plan_init⟩ := c.def_ 8 (d := ⟨("Plan", some "__init__"), "__init__", "Plan.__init__", defArgs (inClass (top 40) 0), defBody (inClass (top 40) 0), defScope (inClass (top 40) 0), [], []⟩) rfl
  have D_Plan_init : FunD K "__init__" "Plan.__init__" (defArgs (inClass (top 40) 0)) (defBody (inClass (top 40) 0)) (defScope (inClass (top 40) 0)) [] [] (He.ma K (He.ga K "Plan") "__init__") fd_Plan_init := D_Plan_init
  have b_Plan_init_ : Binds K fd_Plan_init ["self", "length", "most", "names", "starts", "paused", "ranks"] [] := D_Plan_init.bindsN fun _ _ _ _ _ _ us hl => match us, hl with | [_, _, _, _, _, _, _], _ => rfl
  have u31_c_Plan_ranks : ClsF K mg ["Plan"] "ranks" := (e_cls X G c (List.mem_of_getElem? (i := 50) (l := faE) rfl) (List.mem_of_getElem? (i := 51) (l := faE) rfl) (List.mem_of_getElem? (i := 52) (l := faE) rfl))
  have u32_c_Plan_paused : ClsF K mg ["Plan"] "paused" := (e_cls X G c (List.mem_of_getElem? (i := 50) (l := faE) rfl) (List.mem_of_getElem? (i := 51) (l := faE) rfl) (List.mem_of_getElem? (i := 53) (l := faE) rfl))
  have u33_c_Plan_starts : ClsF K mg ["Plan"] "starts" := (e_cls X G c (List.mem_of_getElem? (i := 50) (l := faE) rfl) (List.mem_of_getElem? (i := 51) (l := faE) rfl) (List.mem_of_getElem? (i := 54) (l := faE) rfl))
  have u34_c_Plan_names : ClsF K mg ["Plan"] "names" := (e_cls X G c (List.mem_of_getElem? (i := 50) (l := faE) rfl) (List.mem_of_getElem? (i := 51) (l := faE) rfl) (List.mem_of_getElem? (i := 55) (l := faE) rfl))
  have u35_c_Plan_most : ClsF K mg ["Plan"] "most" := (e_cls X G c (List.mem_of_getElem? (i := 50) (l := faE) rfl) (List.mem_of_getElem? (i := 51) (l := faE) rfl) (List.mem_of_getElem? (i := 56) (l := faE) rfl))
  have u36_c_Plan_length : ClsF K mg ["Plan"] "length" := (e_cls X G c (List.mem_of_getElem? (i := 50) (l := faE) rfl) (List.mem_of_getElem? (i := 51) (l := faE) rfl) (List.mem_of_getElem? (i := 57) (l := faE) rfl))
  have o_Plan_init : ∀ base : Heap, (∀ q ∈ tfE.map (He.cT K), LamX.TabB base mg q.1 q.2) → FnOk P w K mg base (L2N.CX P w) 1 (He.ma K (He.ga K "Plan") "__init__") fd_Plan_init ["self", "length", "most", "names", "starts", "paused", "ranks"] (spM K mg "Plan" 7 F_Plan_init) := fun base TB => ok_Plan_init D_Plan_init u31_c_Plan_ranks u32_c_Plan_paused u33_c_Plan_starts u34_c_Plan_names u35_c_Plan_most u36_c_Plan_length
  obtain ⟨fd_Parser_peek, D_Parser_peek⟩ := c.def_ 9 (d := ⟨("Parser", some "peek"), "peek", "Parser.peek", defArgs (inClass (top 41) 1), defBody (inClass (top 41) 1), defScope (inClass (top 41) 1), [], []⟩) rfl
  have D_Parser_peek : FunD K "peek" "Parser.peek" (defArgs (inClass (top 41) 1)) (defBody (inClass (top 41) 1)) (defScope (inClass (top 41) 1)) [] [] (He.ma K (He.ga K "Parser") "peek") fd_Parser_peek := D_Parser_peek
  have b_Parser_peek_ : Binds K fd_Parser_peek ["self"] [] := D_Parser_peek.bindsN fun _ _ _ _ _ _ us hl => match us, hl with | [_], _ => rfl
  have o_Parser_peek : ∀ base : Heap, (∀ q ∈ tfE.map (He.cT K), LamX.TabB base mg q.1 q.2) → FnOk P w K mg base (L2N.CX P w) 1 (He.ma K (He.ga K "Parser") "peek") fd_Parser_peek ["self"] (spO K mg 1 F_Parser_peek) := fun base TB => ok_Parser_peek D_Parser_peek u30_c_Parser_tokens u29_c_Parser_at
  obtain ⟨fd_Parser_fail, D_Parser_fail⟩ := c.def_ 10 (d := ⟨("Parser", some "fail"), "fail", "Parser.fail", defArgs (inClass (top 41) 2), defBody (inClass (top 41) 2), defScope (inClass (top 41) 2), [], []⟩) rfl
  have D_Parser_fail : FunD K "fail" "Parser.fail" (defArgs (inClass (top 41) 2)) (defBody (inClass (top 41) 2)) (defScope (inClass (top 41) 2)) [] [] (He.ma K (He.ga K "Parser") "fail") fd_Parser_fail := D_Parser_fail
  have b_Parser_fail_ : Binds K fd_Parser_fail ["self"] [] := D_Parser_fail.bindsN fun _ _ _ _ _ _ us hl => match us, hl with | [_], _ => rfl
  have u37_M_Parser_peek : ∀ base : Heap, (∀ q ∈ tfE.map (He.cT K), LamX.TabB base mg q.1 q.2) → MethOOk P w K mg base "Parser" "peek" 1 1 [] F_Parser_peek := fun base TB => e_methO X G c (List.mem_of_getElem? (i := 41) (l := faE) rfl) (List.mem_of_getElem? (i := 42) (l := faE) rfl) (List.mem_of_getElem? (i := 58) (l := faE) rfl) (b_Parser_peek_) (o_Parser_peek base TB)
  have o_Parser_fail : ∀ base : Heap, (∀ q ∈ tfE.map (He.cT K), LamX.TabB base mg q.1 q.2) → FnOk P w K mg base (L2N.CX P w) 3 (He.ma K (He.ga K "Parser") "fail") fd_Parser_fail ["self"] (spO K mg 1 F_Parser_fail) := fun base TB => ok_Parser_fail D_Parser_fail u2_c_Token_column u3_c_Token_line (u10_R_SyntaxFault base TB) (u37_M_Parser_peek base TB)
  obtain ⟨fd_Parser_found, D_Parser_found⟩ := c.def_ 11 (d := ⟨("Parser", some "found"), "found", "Parser.found", defArgs (inClass (top 41) 3), defBody (inClass (top 41) 3), defScope (inClass (top 41) 3), [], []⟩) rfl
  have D_Parser_found : FunD K "found" "Parser.found" (defArgs (inClass (top 41) 3)) (defBody (inClass (top 41) 3)) (defScope (inClass (top 41) 3)) [] [] (He.ma K (He.ga K "Parser") "found") fd_Parser_found := D_Parser_found
  have b_Parser_found_ : Binds K fd_Parser_found ["self", "reason", "token"] [] := D_Parser_found.bindsN fun _ _ _ _ _ _ us hl => match us, hl with | [_, _, _], _ => rfl
  have o_Parser_found : ∀ base : Heap, (∀ q ∈ tfE.map (He.cT K), LamX.TabB base mg q.1 q.2) → FnOk P w K mg base (L2N.CX P w) 1 (He.ma K (He.ga K "Parser") "found") fd_Parser_found ["self", "reason", "token"] (spO K mg 3 F_Parser_found) := fun base TB => ok_Parser_found D_Parser_found u28_c_Parser_faults u6_z_len u2_c_Token_column u3_c_Token_line
  obtain ⟨fd_Parser_take_word, D_Parser_take_word⟩ := c.def_ 12 (d := ⟨("Parser", some "take_word"), "take_word", "Parser.take_word", defArgs (inClass (top 41) 5), defBody (inClass (top 41) 5), defScope (inClass (top 41) 5), [], []⟩) rfl
  have D_Parser_take_word : FunD K "take_word" "Parser.take_word" (defArgs (inClass (top 41) 5)) (defBody (inClass (top 41) 5)) (defScope (inClass (top 41) 5)) [] [] (He.ma K (He.ga K "Parser") "take_word") fd_Parser_take_word := D_Parser_take_word
  have b_Parser_take_word_ : Binds K fd_Parser_take_word ["self", "word"] [] := D_Parser_take_word.bindsN fun _ _ _ _ _ _ us hl => match us, hl with | [_, _], _ => rfl
  have u38_M_Parser_fail : ∀ base : Heap, (∀ q ∈ tfE.map (He.cT K), LamX.TabB base mg q.1 q.2) → MethOOk P w K mg base "Parser" "fail" 3 1 [] F_Parser_fail := fun base TB => e_methO X G c (List.mem_of_getElem? (i := 41) (l := faE) rfl) (List.mem_of_getElem? (i := 42) (l := faE) rfl) (List.mem_of_getElem? (i := 59) (l := faE) rfl) (b_Parser_fail_) (o_Parser_fail base TB)
  have o_Parser_take_word : ∀ base : Heap, (∀ q ∈ tfE.map (He.cT K), LamX.TabB base mg q.1 q.2) → FnOk P w K mg base (L2N.CX P w) 4 (He.ma K (He.ga K "Parser") "take_word") fd_Parser_take_word ["self", "word"] (spO K mg 2 F_Parser_take_word) := fun base TB => ok_Parser_take_word D_Parser_take_word u29_c_Parser_at (u37_M_Parser_peek base TB) u4_c_Token_text (u38_M_Parser_fail base TB)
  obtain ⟨fd_Parser_take, D_Parser_take⟩ := c.def_ 13 (d := ⟨("Parser", some "take"), "take", "Parser.take", defArgs (inClass (top 41) 4), defBody (inClass (top 41) 4), defScope (inClass (top 41) 4), [], []⟩) rfl
  have D_Parser_take : FunD K "take" "Parser.take" (defArgs (inClass (top 41) 4)) (defBody (inClass (top 41) 4)) (defScope (inClass (top 41) 4)) [] [] (He.ma K (He.ga K "Parser") "take") fd_Parser_take := D_Parser_take
  have b_Parser_take_ : Binds K fd_Parser_take ["self", "kind"] [] := D_Parser_take.bindsN fun _ _ _ _ _ _ us hl => match us, hl with | [_, _], _ => rfl
  have o_Parser_take : ∀ base : Heap, (∀ q ∈ tfE.map (He.cT K), LamX.TabB base mg q.1 q.2) → FnOk P w K mg base (L2N.CX P w) 4 (He.ma K (He.ga K "Parser") "take") fd_Parser_take ["self", "kind"] (spO K mg 2 F_Parser_take) := fun base TB => ok_Parser_take D_Parser_take u29_c_Parser_at u5_c_Token_kind (u38_M_Parser_fail base TB) (u37_M_Parser_peek base TB)
  obtain ⟨fd_Parser_take_names, D_Parser_take_names⟩ := c.def_ 14 (d := ⟨("Parser", some "take_names"), "take_names", "Parser.take_names", defArgs (inClass (top 41) 6), defBody (inClass (top 41) 6), defScope (inClass (top 41) 6), [], []⟩) rfl
  have D_Parser_take_names : FunD K "take_names" "Parser.take_names" (defArgs (inClass (top 41) 6)) (defBody (inClass (top 41) 6)) (defScope (inClass (top 41) 6)) [] [] (He.ma K (He.ga K "Parser") "take_names") fd_Parser_take_names := D_Parser_take_names
  have b_Parser_take_names_ : Binds K fd_Parser_take_names ["self"] [] := D_Parser_take_names.bindsN fun _ _ _ _ _ _ us hl => match us, hl with | [_], _ => rfl
  have u39_M_Parser_take_word : ∀ base : Heap, (∀ q ∈ tfE.map (He.cT K), LamX.TabB base mg q.1 q.2) → MethOOk P w K mg base "Parser" "take_word" 4 2 [] F_Parser_take_word := fun base TB => e_methO X G c (List.mem_of_getElem? (i := 41) (l := faE) rfl) (List.mem_of_getElem? (i := 42) (l := faE) rfl) (List.mem_of_getElem? (i := 60) (l := faE) rfl) (b_Parser_take_word_) (o_Parser_take_word base TB)
  have u40_M_Parser_take : ∀ base : Heap, (∀ q ∈ tfE.map (He.cT K), LamX.TabB base mg q.1 q.2) → MethOOk P w K mg base "Parser" "take" 4 2 [] F_Parser_take := fun base TB => e_methO X G c (List.mem_of_getElem? (i := 41) (l := faE) rfl) (List.mem_of_getElem? (i := 42) (l := faE) rfl) (List.mem_of_getElem? (i := 61) (l := faE) rfl) (b_Parser_take_) (o_Parser_take base TB)
  have o_Parser_take_names : ∀ base : Heap, (∀ q ∈ tfE.map (He.cT K), LamX.TabB base mg q.1 q.2) → FnOk P w K mg base (L2N.CX P w) 5 (He.ma K (He.ga K "Parser") "take_names") fd_Parser_take_names ["self"] (spO K mg 1 F_Parser_take_names) := fun base TB => ok_Parser_take_names D_Parser_take_names (u39_M_Parser_take_word base TB) u18_g_END_SIGN (u37_M_Parser_peek base TB) u5_c_Token_kind u7_g_NAME (u40_M_Parser_take base TB)
  obtain ⟨fd_Parser_valve, D_Parser_valve⟩ := c.def_ 15 (d := ⟨("Parser", some "valve"), "valve", "Parser.valve", defArgs (inClass (top 41) 7), defBody (inClass (top 41) 7), defScope (inClass (top 41) 7), [], []⟩) rfl
  have D_Parser_valve : FunD K "valve" "Parser.valve" (defArgs (inClass (top 41) 7)) (defBody (inClass (top 41) 7)) (defScope (inClass (top 41) 7)) [] [] (He.ma K (He.ga K "Parser") "valve") fd_Parser_valve := D_Parser_valve
  have b_Parser_valve_ : Binds K fd_Parser_valve ["self", "token"] [] := D_Parser_valve.bindsN fun _ _ _ _ _ _ us hl => match us, hl with | [_, _], _ => rfl
  have u41_M_Parser_found : ∀ base : Heap, (∀ q ∈ tfE.map (He.cT K), LamX.TabB base mg q.1 q.2) → MethOOk P w K mg base "Parser" "found" 1 3 [] F_Parser_found := fun base TB => e_methO X G c (List.mem_of_getElem? (i := 41) (l := faE) rfl) (List.mem_of_getElem? (i := 42) (l := faE) rfl) (List.mem_of_getElem? (i := 62) (l := faE) rfl) (b_Parser_found_) (o_Parser_found base TB)
  have o_Parser_valve : ∀ base : Heap, (∀ q ∈ tfE.map (He.cT K), LamX.TabB base mg q.1 q.2) → FnOk P w K mg base (L2N.CX P w) 2 (He.ma K (He.ga K "Parser") "valve") fd_Parser_valve ["self", "token"] (spO K mg 2 F_Parser_valve) := fun base TB => ok_Parser_valve D_Parser_valve (u41_M_Parser_found base TB) u4_c_Token_text u27_c_Parser_names
  obtain ⟨fd_Parser_parse_rank, D_Parser_parse_rank⟩ := c.def_ 16 (d := ⟨("Parser", some "parse_rank"), "parse_rank", "Parser.parse_rank", defArgs (inClass (top 41) 12), defBody (inClass (top 41) 12), defScope (inClass (top 41) 12), [], []⟩) rfl
  have D_Parser_parse_rank : FunD K "parse_rank" "Parser.parse_rank" (defArgs (inClass (top 41) 12)) (defBody (inClass (top 41) 12)) (defScope (inClass (top 41) 12)) [] [] (He.ma K (He.ga K "Parser") "parse_rank") fd_Parser_parse_rank := D_Parser_parse_rank
  have b_Parser_parse_rank_ : Binds K fd_Parser_parse_rank ["self"] [] := D_Parser_parse_rank.bindsN fun _ _ _ _ _ _ us hl => match us, hl with | [_], _ => rfl
  have u42_M_Parser_take_names : ∀ base : Heap, (∀ q ∈ tfE.map (He.cT K), LamX.TabB base mg q.1 q.2) → MethOOk P w K mg base "Parser" "take_names" 5 1 [] F_Parser_take_names := fun base TB => e_methO X G c (List.mem_of_getElem? (i := 41) (l := faE) rfl) (List.mem_of_getElem? (i := 42) (l := faE) rfl) (List.mem_of_getElem? (i := 63) (l := faE) rfl) (b_Parser_take_names_) (o_Parser_take_names base TB)
  have u43_M_Parser_valve : ∀ base : Heap, (∀ q ∈ tfE.map (He.cT K), LamX.TabB base mg q.1 q.2) → MethOOk P w K mg base "Parser" "valve" 2 2 [] F_Parser_valve := fun base TB => e_methO X G c (List.mem_of_getElem? (i := 41) (l := faE) rfl) (List.mem_of_getElem? (i := 42) (l := faE) rfl) (List.mem_of_getElem? (i := 64) (l := faE) rfl) (b_Parser_valve_) (o_Parser_valve base TB)
  have o_Parser_parse_rank : ∀ base : Heap, (∀ q ∈ tfE.map (He.cT K), LamX.TabB base mg q.1 q.2) → FnOk P w K mg base (L2N.CX P w) 6 (He.ma K (He.ga K "Parser") "parse_rank") fd_Parser_parse_rank ["self"] (spO K mg 1 F_Parser_parse_rank) := fun base TB => ok_Parser_parse_rank D_Parser_parse_rank u24_c_Parser_ranks (u41_M_Parser_found base TB) (u42_M_Parser_take_names base TB) u4_c_Token_text u27_c_Parser_names (u43_M_Parser_valve base TB) (u39_M_Parser_take_word base TB) (u37_M_Parser_peek base TB)
  obtain ⟨fd_Parser_parse_pause, D_Parser_parse_pause⟩ := c.def_ 17 (d := ⟨("Parser", some "parse_pause"), "parse_pause", "Parser.parse_pause", defArgs (inClass (top 41) 11), defBody (inClass (top 41) 11), defScope (inClass (top 41) 11), [], []⟩) rfl
  have D_Parser_parse_pause : FunD K "parse_pause" "Parser.parse_pause" (defArgs (inClass (top 41) 11)) (defBody (inClass (top 41) 11)) (defScope (inClass (top 41) 11)) [] [] (He.ma K (He.ga K "Parser") "parse_pause") fd_Parser_parse_pause := D_Parser_parse_pause
  have b_Parser_parse_pause_ : Binds K fd_Parser_parse_pause ["self", "length"] [] := D_Parser_parse_pause.bindsN fun _ _ _ _ _ _ us hl => match us, hl with | [_, _], _ => rfl
  have u44_z_int : mg "int" = none := e_free X G c (List.mem_of_getElem? (i := 65) (l := faE) rfl)
  have o_Parser_parse_pause : ∀ base : Heap, (∀ q ∈ tfE.map (He.cT K), LamX.TabB base mg q.1 q.2) → FnOk P w K mg base (L2N.CX P w) 5 (He.ma K (He.ga K "Parser") "parse_pause") fd_Parser_parse_pause ["self", "length"] (spO K mg 2 F_Parser_parse_pause) := fun base TB => ok_Parser_parse_pause D_Parser_parse_pause u25_c_Parser_pauses u44_z_int u4_c_Token_text (u41_M_Parser_found base TB) (u39_M_Parser_take_word base TB) u18_g_END_SIGN (u40_M_Parser_take base TB) u16_g_NUMBER
  obtain ⟨fd_Parser_parse_start, D_Parser_parse_start⟩ := c.def_ 18 (d := ⟨("Parser", some "parse_start"), "parse_start", "Parser.parse_start", defArgs (inClass (top 41) 10), defBody (inClass (top 41) 10), defScope (inClass (top 41) 10), [], []⟩) rfl
  have D_Parser_parse_start : FunD K "parse_start" "Parser.parse_start" (defArgs (inClass (top 41) 10)) (defBody (inClass (top 41) 10)) (defScope (inClass (top 41) 10)) [] [] (He.ma K (He.ga K "Parser") "parse_start") fd_Parser_parse_start := D_Parser_parse_start
  have b_Parser_parse_start_ : Binds K fd_Parser_parse_start ["self", "length"] [] := D_Parser_parse_start.bindsN fun _ _ _ _ _ _ us hl => match us, hl with | [_, _], _ => rfl
  have u45_g_MAX_STARTS : GInt mg "MAX_STARTS" 20 := e_int X G c (List.mem_of_getElem? (i := 66) (l := faE) rfl)
  have u46_g_MAX_LENGTH : GInt mg "MAX_LENGTH" 30 := e_int X G c (List.mem_of_getElem? (i := 67) (l := faE) rfl)
  have o_Parser_parse_start : ∀ base : Heap, (∀ q ∈ tfE.map (He.cT K), LamX.TabB base mg q.1 q.2) → FnOk P w K mg base (L2N.CX P w) 5 (He.ma K (He.ga K "Parser") "parse_start") fd_Parser_parse_start ["self", "length"] (spO K mg 2 F_Parser_parse_start) := fun base TB => ok_Parser_parse_start D_Parser_parse_start u26_c_Parser_starts u44_z_int u4_c_Token_text u6_z_len u45_g_MAX_STARTS (u41_M_Parser_found base TB) u46_g_MAX_LENGTH (u39_M_Parser_take_word base TB) u18_g_END_SIGN (u40_M_Parser_take base TB) u16_g_NUMBER (u43_M_Parser_valve base TB) u7_g_NAME (u37_M_Parser_peek base TB)
  obtain ⟨fd_Parser_parse_valves, D_Parser_parse_valves⟩ := c.def_ 19 (d := ⟨("Parser", some "parse_valves"), "parse_valves", "Parser.parse_valves", defArgs (inClass (top 41) 9), defBody (inClass (top 41) 9), defScope (inClass (top 41) 9), [], []⟩) rfl
  have D_Parser_parse_valves : FunD K "parse_valves" "Parser.parse_valves" (defArgs (inClass (top 41) 9)) (defBody (inClass (top 41) 9)) (defScope (inClass (top 41) 9)) [] [] (He.ma K (He.ga K "Parser") "parse_valves") fd_Parser_parse_valves := D_Parser_parse_valves
  have b_Parser_parse_valves_ : Binds K fd_Parser_parse_valves ["self"] [] := D_Parser_parse_valves.bindsN fun _ _ _ _ _ _ us hl => match us, hl with | [_], _ => rfl
  have u47_g_MAX_VALVES : GInt mg "MAX_VALVES" 8 := e_int X G c (List.mem_of_getElem? (i := 68) (l := faE) rfl)
  have o_Parser_parse_valves : ∀ base : Heap, (∀ q ∈ tfE.map (He.cT K), LamX.TabB base mg q.1 q.2) → FnOk P w K mg base (L2N.CX P w) 6 (He.ma K (He.ga K "Parser") "parse_valves") fd_Parser_parse_valves ["self"] (spO K mg 1 F_Parser_parse_valves) := fun base TB => ok_Parser_parse_valves D_Parser_parse_valves (u42_M_Parser_take_names base TB) u4_c_Token_text u27_c_Parser_names (u41_M_Parser_found base TB) u6_z_len u47_g_MAX_VALVES (u39_M_Parser_take_word base TB)
  obtain ⟨fd_Parser_parse_number, D_Parser_parse_number⟩ := c.def_ 20 (d := ⟨("Parser", some "parse_number"), "parse_number", "Parser.parse_number", defArgs (inClass (top 41) 8), defBody (inClass (top 41) 8), defScope (inClass (top 41) 8), [], []⟩) rfl
  have D_Parser_parse_number : FunD K "parse_number" "Parser.parse_number" (defArgs (inClass (top 41) 8)) (defBody (inClass (top 41) 8)) (defScope (inClass (top 41) 8)) [] [] (He.ma K (He.ga K "Parser") "parse_number") fd_Parser_parse_number := D_Parser_parse_number
  have b_Parser_parse_number_ : Binds K fd_Parser_parse_number ["self", "word", "high"] [] := D_Parser_parse_number.bindsN fun _ _ _ _ _ _ us hl => match us, hl with | [_, _, _], _ => rfl
  have o_Parser_parse_number : ∀ base : Heap, (∀ q ∈ tfE.map (He.cT K), LamX.TabB base mg q.1 q.2) → FnOk P w K mg base (L2N.CX P w) 5 (He.ma K (He.ga K "Parser") "parse_number") fd_Parser_parse_number ["self", "word", "high"] (spO K mg 3 F_Parser_parse_number) := fun base TB => ok_Parser_parse_number D_Parser_parse_number u44_z_int u4_c_Token_text (u41_M_Parser_found base TB) (u39_M_Parser_take_word base TB) u18_g_END_SIGN (u40_M_Parser_take base TB) u16_g_NUMBER
  obtain ⟨fd_Parser_parse_planM, D_Parser_parse_planM⟩ := c.def_ 21 (d := ⟨("Parser", some "parse_plan"), "parse_plan", "Parser.parse_plan", defArgs (inClass (top 41) 13), defBody (inClass (top 41) 13), defScope (inClass (top 41) 13), [], []⟩) rfl
  have D_Parser_parse_planM : FunD K "parse_plan" "Parser.parse_plan" (defArgs (inClass (top 41) 13)) (defBody (inClass (top 41) 13)) (defScope (inClass (top 41) 13)) [] [] (He.ma K (He.ga K "Parser") "parse_plan") fd_Parser_parse_planM := D_Parser_parse_planM
  have b_Parser_parse_planM_ : Binds K fd_Parser_parse_planM ["self"] [] := D_Parser_parse_planM.bindsN fun _ _ _ _ _ _ us hl => match us, hl with | [_], _ => rfl
  have u48_z_tuple : mg "tuple" = none := e_free X G c (List.mem_of_getElem? (i := 69) (l := faE) rfl)
  have u49_K_Plan : ∀ base : Heap, (∀ q ∈ tfE.map (He.cT K), LamX.TabB base mg q.1 q.2) → MakeMOk P w K mg base "Plan" 1 7 [] F_Plan_init := fun base TB => e_makeM X G c (List.mem_of_getElem? (i := 50) (l := faE) rfl) (List.mem_of_getElem? (i := 70) (l := faE) rfl) (b_Plan_init_) (o_Plan_init base TB)
  have u50_z_sorted : mg "sorted" = none := e_free X G c (List.mem_of_getElem? (i := 71) (l := faE) rfl)
  have u51_z_range : mg "range" = none := e_free X G c (List.mem_of_getElem? (i := 72) (l := faE) rfl)
  have u52_z_any : mg "any" = none := e_free X G c (List.mem_of_getElem? (i := 73) (l := faE) rfl)
  have u53_R_CheckFault : ∀ base : Heap, (∀ q ∈ tfE.map (He.cT K), LamX.TabB base mg q.1 q.2) → RaiseXOk P w K mg base "CheckFault" ["reason", "line", "column"] 1 := fun base TB => e_raise X G c (List.mem_of_getElem? (i := 12) (l := faE) rfl) T_CheckFault (b_CheckFault_init_) (o_CheckFault_init base TB)
  have u54_z_min : mg "min" = none := e_free X G c (List.mem_of_getElem? (i := 74) (l := faE) rfl)
  have u55_M_Parser_parse_rank : ∀ base : Heap, (∀ q ∈ tfE.map (He.cT K), LamX.TabB base mg q.1 q.2) → MethOOk P w K mg base "Parser" "parse_rank" 6 1 [] F_Parser_parse_rank := fun base TB => e_methO X G c (List.mem_of_getElem? (i := 41) (l := faE) rfl) (List.mem_of_getElem? (i := 42) (l := faE) rfl) (List.mem_of_getElem? (i := 75) (l := faE) rfl) (b_Parser_parse_rank_) (o_Parser_parse_rank base TB)
  have u56_M_Parser_parse_pause : ∀ base : Heap, (∀ q ∈ tfE.map (He.cT K), LamX.TabB base mg q.1 q.2) → MethOOk P w K mg base "Parser" "parse_pause" 5 2 [] F_Parser_parse_pause := fun base TB => e_methO X G c (List.mem_of_getElem? (i := 41) (l := faE) rfl) (List.mem_of_getElem? (i := 42) (l := faE) rfl) (List.mem_of_getElem? (i := 76) (l := faE) rfl) (b_Parser_parse_pause_) (o_Parser_parse_pause base TB)
  have u57_M_Parser_parse_start : ∀ base : Heap, (∀ q ∈ tfE.map (He.cT K), LamX.TabB base mg q.1 q.2) → MethOOk P w K mg base "Parser" "parse_start" 5 2 [] F_Parser_parse_start := fun base TB => e_methO X G c (List.mem_of_getElem? (i := 41) (l := faE) rfl) (List.mem_of_getElem? (i := 42) (l := faE) rfl) (List.mem_of_getElem? (i := 77) (l := faE) rfl) (b_Parser_parse_start_) (o_Parser_parse_start base TB)
  have u58_M_Parser_parse_valves : ∀ base : Heap, (∀ q ∈ tfE.map (He.cT K), LamX.TabB base mg q.1 q.2) → MethOOk P w K mg base "Parser" "parse_valves" 6 1 [] F_Parser_parse_valves := fun base TB => e_methO X G c (List.mem_of_getElem? (i := 41) (l := faE) rfl) (List.mem_of_getElem? (i := 42) (l := faE) rfl) (List.mem_of_getElem? (i := 78) (l := faE) rfl) (b_Parser_parse_valves_) (o_Parser_parse_valves base TB)
  have u59_M_Parser_parse_number : ∀ base : Heap, (∀ q ∈ tfE.map (He.cT K), LamX.TabB base mg q.1 q.2) → MethOOk P w K mg base "Parser" "parse_number" 5 3 [] F_Parser_parse_number := fun base TB => e_methO X G c (List.mem_of_getElem? (i := 41) (l := faE) rfl) (List.mem_of_getElem? (i := 42) (l := faE) rfl) (List.mem_of_getElem? (i := 79) (l := faE) rfl) (b_Parser_parse_number_) (o_Parser_parse_number base TB)
  have u60_g_MAX_OPEN : GInt mg "MAX_OPEN" 9 := e_int X G c (List.mem_of_getElem? (i := 80) (l := faE) rfl)
  have u61_g_MAX_ROUND : GInt mg "MAX_ROUND" 60 := e_int X G c (List.mem_of_getElem? (i := 81) (l := faE) rfl)
  have o_Parser_parse_planM : ∀ base : Heap, (∀ q ∈ tfE.map (He.cT K), LamX.TabB base mg q.1 q.2) → FnOk P w K mg base (L2N.CX P w) 7 (He.ma K (He.ga K "Parser") "parse_plan") fd_Parser_parse_planM ["self"] (spO K mg 1 F_Parser_parse_planM) := fun base TB => ok_Parser_parse_planM D_Parser_parse_planM (e_lam (p := ("Parser", some "parse_plan")) lb cX.x.hd D_Parser_parse_planM TB (List.mem_of_getElem? (i := 0) (l := tfE) rfl) (List.mem_of_getElem? (i := 0) (l := lamDefs) rfl)) u48_z_tuple u27_c_Parser_names (u49_K_Plan base TB) u50_z_sorted u26_c_Parser_starts u6_z_len u51_z_range u24_c_Parser_ranks u52_z_any u25_c_Parser_pauses u28_c_Parser_faults (u53_R_CheckFault base TB) u54_z_min (u37_M_Parser_peek base TB) u5_c_Token_kind u20_g_END u4_c_Token_text (u38_M_Parser_fail base TB) (u55_M_Parser_parse_rank base TB) (u56_M_Parser_parse_pause base TB) (u57_M_Parser_parse_start base TB) (u58_M_Parser_parse_valves base TB) (u59_M_Parser_parse_number base TB) u60_g_MAX_OPEN u61_g_MAX_ROUND
  obtain ⟨fd_loadM, D_loadM⟩ := c.def_ 22 (d := ⟨("load", none), "load", "load", defArgs (top 42), defBody (top 42), defScope (top 42), [], []⟩) rfl
  have D_loadM : FunD K "load" "load" (defArgs (top 42)) (defBody (top 42)) (defScope (top 42)) [] [] (He.ga K "load") fd_loadM := D_loadM
  have b_loadM_ : Binds K fd_loadM ["plan"] [] := D_loadM.bindsN fun _ _ _ _ _ _ us hl => match us, hl with | [_], _ => rfl
  have u62_C_tokenize : ∀ base : Heap, (∀ q ∈ tfE.map (He.cT K), LamX.TabB base mg q.1 q.2) → CallPOk P w K mg base "tokenize" 4 1 [] F_tokenize := fun base TB => e_callP X G c D_tokenize (List.mem_of_getElem? (i := 82) (l := faE) rfl) (b_tokenize_) (o_tokenize base TB)
  have u63_K_Parser : ∀ base : Heap, (∀ q ∈ tfE.map (He.cT K), LamX.TabB base mg q.1 q.2) → MakeOOk P w K mg base "Parser" 1 2 [] F_Parser_init := fun base TB => e_makeO X G c (List.mem_of_getElem? (i := 41) (l := faE) rfl) (List.mem_of_getElem? (i := 83) (l := faE) rfl) (b_Parser_init_) (o_Parser_init base TB)
  have u64_M_Parser_parse_plan : ∀ base : Heap, (∀ q ∈ tfE.map (He.cT K), LamX.TabB base mg q.1 q.2) → MethOOk P w K mg base "Parser" "parse_plan" 7 1 [] F_Parser_parse_planM := fun base TB => e_methO X G c (List.mem_of_getElem? (i := 41) (l := faE) rfl) (List.mem_of_getElem? (i := 42) (l := faE) rfl) (List.mem_of_getElem? (i := 84) (l := faE) rfl) (b_Parser_parse_planM_) (o_Parser_parse_planM base TB)
  have o_loadM : ∀ base : Heap, (∀ q ∈ tfE.map (He.cT K), LamX.TabB base mg q.1 q.2) → FnOk P w K mg base (L2N.CX P w) 8 (He.ga K "load") fd_loadM ["plan"] (spP K mg 1 F_loadM) := fun base TB => ok_loadM D_loadM (u62_C_tokenize base TB) (u63_K_Parser base TB) (u64_M_Parser_parse_plan base TB)
  obtain ⟨fd_runs_of, D_runs_of⟩ := c.def_ 23 (d := ⟨("runs_of", none), "runs_of", "runs_of", defArgs (top 44), defBody (top 44), defScope (top 44), [], []⟩) rfl
  have D_runs_of : FunD K "runs_of" "runs_of" (defArgs (top 44)) (defBody (top 44)) (defScope (top 44)) [] [] (He.ga K "runs_of") fd_runs_of := D_runs_of
  have b_runs_of_ : Binds K fd_runs_of ["paused"] [] := D_runs_of.bindsN fun _ _ _ _ _ _ us hl => match us, hl with | [_], _ => rfl
  have o_runs_of : ∀ base : Heap, (∀ q ∈ tfE.map (He.cT K), LamX.TabB base mg q.1 q.2) → FnOk P w K mg base (L2N.CX P w) 1 (He.ga K "runs_of") fd_runs_of ["paused"] (spP K mg 1 F_runs_of) := fun base TB => ok_runs_of D_runs_of u21_z_enumerate
  obtain ⟨fd_format_parsed, D_format_parsed⟩ := c.def_ 24 (d := ⟨("format_parsed", none), "format_parsed", "format_parsed", defArgs (top 45), defBody (top 45), defScope (top 45), [], []⟩) rfl
  have D_format_parsed : FunD K "format_parsed" "format_parsed" (defArgs (top 45)) (defBody (top 45)) (defScope (top 45)) [] [] (He.ga K "format_parsed") fd_format_parsed := D_format_parsed
  have b_format_parsed_ : Binds K fd_format_parsed ["parsed"] [] := D_format_parsed.bindsN fun _ _ _ _ _ _ us hl => match us, hl with | [_], _ => rfl
  have u65_C_runs_of : ∀ base : Heap, (∀ q ∈ tfE.map (He.cT K), LamX.TabB base mg q.1 q.2) → CallPOk P w K mg base "runs_of" 1 1 [] F_runs_of := fun base TB => e_callP X G c D_runs_of (List.mem_of_getElem? (i := 85) (l := faE) rfl) (b_runs_of_) (o_runs_of base TB)
  have u66_z_str : mg "str" = none := e_free X G c (List.mem_of_getElem? (i := 86) (l := faE) rfl)
  have u67_z_list : mg "list" = none := e_free X G c (List.mem_of_getElem? (i := 87) (l := faE) rfl)
  have o_format_parsed : ∀ base : Heap, (∀ q ∈ tfE.map (He.cT K), LamX.TabB base mg q.1 q.2) → FnOk P w K mg base (L2N.CX P w) 2 (He.ga K "format_parsed") fd_format_parsed ["parsed"] (spP K mg 1 F_format_parsed) := fun base TB => ok_format_parsed D_format_parsed u32_c_Plan_paused (u65_C_runs_of base TB) u66_z_str u33_c_Plan_starts u31_c_Plan_ranks u67_z_list u6_z_len u51_z_range u35_c_Plan_most u36_c_Plan_length u34_c_Plan_names
  obtain ⟨fd_format_planM, D_format_planM⟩ := c.def_ 25 (d := ⟨("format_plan", none), "format_plan", "format_plan", defArgs (top 46), defBody (top 46), defScope (top 46), [], []⟩) rfl
  have D_format_planM : FunD K "format_plan" "format_plan" (defArgs (top 46)) (defBody (top 46)) (defScope (top 46)) [] [] (He.ga K "format_plan") fd_format_planM := D_format_planM
  have b_format_planM_ : Binds K fd_format_planM ["plan"] [] := D_format_planM.bindsN fun _ _ _ _ _ _ us hl => match us, hl with | [_], _ => rfl
  have u68_C_load : ∀ base : Heap, (∀ q ∈ tfE.map (He.cT K), LamX.TabB base mg q.1 q.2) → CallPOk P w K mg base "load" 8 1 [] F_loadM := fun base TB => e_callP X G c D_loadM (List.mem_of_getElem? (i := 88) (l := faE) rfl) (b_loadM_) (o_loadM base TB)
  have u69_C_format_parsed : ∀ base : Heap, (∀ q ∈ tfE.map (He.cT K), LamX.TabB base mg q.1 q.2) → CallPOk P w K mg base "format_parsed" 2 1 [] F_format_parsed := fun base TB => e_callP X G c D_format_parsed (List.mem_of_getElem? (i := 89) (l := faE) rfl) (b_format_parsed_) (o_format_parsed base TB)
  have o_format_planM : ∀ base : Heap, (∀ q ∈ tfE.map (He.cT K), LamX.TabB base mg q.1 q.2) → FnOk P w K mg base (L2N.CX P w) 9 (He.ga K "format_plan") fd_format_planM ["plan"] (spP K mg 1 F_format_planM) := fun base TB => ok_format_planM D_format_planM (u68_C_load base TB) (u69_C_format_parsed base TB)
  obtain ⟨fd__law_below, D__law_below⟩ := c.def_ 26 (d := ⟨("_law_below", none), "_law_below", "_law_below", defArgs (top 49), defBody (top 49), defScope (top 49), [], []⟩) rfl
  have D__law_below : FunD K "_law_below" "_law_below" (defArgs (top 49)) (defBody (top 49)) (defScope (top 49)) [] [] (He.ga K "_law_below") fd__law_below := D__law_below
  have b__law_below_ : Binds K fd__law_below ["_law_d", "_law_limit"] [] := D__law_below.bindsN fun _ _ _ _ _ _ us hl => match us, hl with | [_, _], _ => rfl
  have o__law_below : ∀ base : Heap, (∀ q ∈ tfE.map (He.cT K), LamX.TabB base mg q.1 q.2) → FnOk P w K mg base (L2N.CX P w) 1 (He.ga K "_law_below") fd__law_below ["_law_d", "_law_limit"] (spO K mg 2 F__law_below) := fun base TB => ok__law_below D__law_below u6_z_len
  obtain ⟨fd__law_faulty, D__law_faulty⟩ := c.def_ 27 (d := ⟨("_law_faulty", none), "_law_faulty", "_law_faulty", defArgs (top 50), defBody (top 50), defScope (top 50), [], []⟩) rfl
  have D__law_faulty : FunD K "_law_faulty" "_law_faulty" (defArgs (top 50)) (defBody (top 50)) (defScope (top 50)) [] [] (He.ga K "_law_faulty") fd__law_faulty := D__law_faulty
  have b__law_faulty_ : Binds K fd__law_faulty ["_law_d"] [] := D__law_faulty.bindsN fun _ _ _ _ _ _ us hl => match us, hl with | [_], _ => rfl
  have u70_C__law_below : ∀ base : Heap, (∀ q ∈ tfE.map (He.cT K), LamX.TabB base mg q.1 q.2) → CallOOk P w K mg base "_law_below" 1 2 [] F__law_below := fun base TB => e_callO X G c D__law_below (List.mem_of_getElem? (i := 90) (l := faE) rfl) (b__law_below_) (o__law_below base TB)
  have o__law_faulty : ∀ base : Heap, (∀ q ∈ tfE.map (He.cT K), LamX.TabB base mg q.1 q.2) → FnOk P w K mg base (L2N.CX P w) 2 (He.ga K "_law_faulty") fd__law_faulty ["_law_d"] (spO K mg 1 F__law_faulty) := fun base TB => ok__law_faulty D__law_faulty (u70_C__law_below base TB) u66_z_str
  obtain ⟨fd__law_random, D__law_random⟩ := c.def_ 28 (d := ⟨("_law_random", none), "_law_random", "_law_random", defArgs (top 48), defBody (top 48), defScope (top 48), [], []⟩) rfl
  have D__law_random : FunD K "_law_random" "_law_random" (defArgs (top 48)) (defBody (top 48)) (defScope (top 48)) [] [] (He.ga K "_law_random") fd__law_random := D__law_random
  have b__law_random_ : Binds K fd__law_random ["_law_script", "_law_salt"] [] := D__law_random.bindsN fun _ _ _ _ _ _ us hl => match us, hl with | [_, _], _ => rfl
  have u71_z_abs : mg "abs" = none := e_free X G c (List.mem_of_getElem? (i := 91) (l := faE) rfl)
  have o__law_random : ∀ base : Heap, (∀ q ∈ tfE.map (He.cT K), LamX.TabB base mg q.1 q.2) → FnOk P w K mg base (L2N.CX P w) 1 (He.ga K "_law_random") fd__law_random ["_law_script", "_law_salt"] (spN K mg 2 F__law_random) := fun base TB => ok__law_random D__law_random u71_z_abs
  obtain ⟨fd_law_k02, D_law_k02⟩ := c.def_ 29 (d := ⟨("law", none), "law", "law", defArgs (top 52), defBody (top 52), defScope (top 52), [], []⟩) rfl
  have D_law_k02 : FunD K "law" "law" (defArgs (top 52)) (defBody (top 52)) (defScope (top 52)) [] [] (He.ga K "law") fd_law_k02 := D_law_k02
  have b_law_k02_ : Binds K fd_law_k02 ["_law_script"] [] := D_law_k02.bindsN fun _ _ _ _ _ _ us hl => match us, hl with | [_], _ => rfl
  have u73_C_format_plan : ∀ base : Heap, (∀ q ∈ tfE.map (He.cT K), LamX.TabB base mg q.1 q.2) → CallPOk P w K mg base "format_plan" 9 1 [] F_format_planM := fun base TB => e_callP X G c D_format_planM (List.mem_of_getElem? (i := 92) (l := faE) rfl) (b_format_planM_) (o_format_planM base TB)
  have u74_C__law_faulty : ∀ base : Heap, (∀ q ∈ tfE.map (He.cT K), LamX.TabB base mg q.1 q.2) → CallOOk P w K mg base "_law_faulty" 2 1 [] F__law_faulty := fun base TB => e_callO X G c D__law_faulty (List.mem_of_getElem? (i := 93) (l := faE) rfl) (b__law_faulty_) (o__law_faulty base TB)
  have u75_C__law_random : ∀ base : Heap, (∀ q ∈ tfE.map (He.cT K), LamX.TabB base mg q.1 q.2) → CallNOk P w K mg base "_law_random" 1 2 [] F__law_random := fun base TB => e_callN X G c D__law_random (List.mem_of_getElem? (i := 94) (l := faE) rfl) (b__law_random_) (o__law_random base TB)
  have o_law_k02 : ∀ base : Heap, (∀ q ∈ tfE.map (He.cT K), LamX.TabB base mg q.1 q.2) → FnOk P w K mg base (L2N.CX P w) 12 (He.ga K "law") fd_law_k02 ["_law_script"] (spP K mg 1 F_law_k02) := fun base TB => ok_law_k02 D_law_k02 (e_lam (p := ("law", none)) lb cX.x.hd D_law_k02 TB (List.mem_of_getElem? (i := 1) (l := tfE) rfl) (List.mem_of_getElem? (i := 6) (l := lamDefs) rfl)) u51_z_range (EO_ base TB) (u73_C_format_plan base TB) u6_z_len (u74_C__law_faulty base TB) (u75_C__law_random base TB)
  exact ⟨fd_law_k02, fun s u => FunD.bindsA (ps := ["_law_script"]) D_law_k02 (fun _ _ _ _ _ _ us hl => match us, hl with | [_], _ => rfl) s [u] rfl, o_law_k02⟩
end G
open PySem PySem.W PySem.Calls PyProof.Rows
theorem PySem.Challenge.cw_watervalves_k02_check_faults_holds : PySem.Challenge.rw_watervalves_k02_check_faults.Holds := by
  w_on; o_law
  refine HandSHeadRun.head_any (r := OpenLaw.row PySem.Challenge.rw_watervalves_k02_check_faults) (q := view (OpenLaw.row PySem.Challenge.rw_watervalves_k02_check_faults).prog [52]) (H := G.hkE) (ob := G.obE) (M := 20000) (loose := G.lsE) (d := HandSHeadRun.topDef (OpenLaw.row PySem.Challenge.rw_watervalves_k02_check_faults).prog 52) (kwd := []) G.obE_eq
    (by kernel_rfl) (fun s => by kernel_rfl) G.runE (by kernel_rfl) (by kernel_rfl) (by kernel_rfl) (by rfl) (by first | assumption | decide +kernel) (by decide +kernel) ⟨rfl, rfl, rfl, rfl, rfl, by decide +kernel⟩ ?hw ?hc
  case hw => w_witness2
  case hc =>
    refine LamX.walk_ofTsE (l := PySem.Challenge.rw_watervalves_k02_check_faults) (n := 63) (k := 12) (x := "_law_script") (CX := fun w => L2N.CX (PySem.Challenge.rw_watervalves_k02_check_faults).prog w) rfl (by decide) (by kernel_rfl) ⟨rfl, by decide, by decide⟩ ?F ?C
    case C => exact fun _ _ _ _ _ ⟨_, _, _, _, _, _, _, _, _, _, _, _, z⟩ => z
    intro w mg fa h Y Gs hmg0
    obtain ⟨K, KX, c⟩ := Y
    have hmg : mg ("law" : PySem.Str) = some (.ref fa) := by
      have e : (HandSHeadRun.topDef (OpenLaw.row PySem.Challenge.rw_watervalves_k02_check_faults).prog 52).name = ("law" : PySem.Str) := by kernel_rfl
      rw [← e]
      exact hmg0
    have e := hmg.symm.trans (He.glo_ok KX Gs (c.x.t.d.facts (List.mem_of_getElem? (i := 95) (l := G.faE) rfl)))
    cases e
    obtain ⟨fd, hb, hF⟩ := G.all_ok (P := (PySem.Challenge.rw_watervalves_k02_check_faults).prog) (w := w) KX Gs c
    refine ⟨K, KX, fd, G.tfE.map (He.cT K), Cl.spP K mg 1 G.F_law_k02, fun q hq => ?_, fun q hq => ?_, fun q hq => ?_, hb, fun H a ns hl hz hH hS => ?_, fun base _ _ TB => hF base TB⟩
    · obtain ⟨p, hp, rfl⟩ := List.mem_map.mp hq
      exact c.x.empty p hp
    · obtain ⟨p, hp, rfl⟩ := List.mem_map.mp hq
      exact c.x.out p hp
    · obtain ⟨p, hp, rfl⟩ := List.mem_map.mp hq
      exact PySem.W.codeHd_of_K KX (c.x.hd p hp)
    · exact Cl.law_sp (He.ba c.x.more).1 hH hS (G.law_true ns hl hz)
